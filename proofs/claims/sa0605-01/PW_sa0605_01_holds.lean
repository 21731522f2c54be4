import PyProof.Rows.All
import Wide.All
import OpenK.AllK
import Wide.FinOn
import PySem.Challenge.RW_sa0605_01
open PySem PySem.W PyProof.Rows
set_option Elab.async false
set_option linter.unusedSimpArgs false
set_option linter.unusedVariables false
set_option genSizeOf false
set_option genInjectivity false
set_option bootstrap.genMatcherCode false
set_option maxRecDepth 10000
namespace Mine
theorem ff {p:Prop} (h:false=true):p:=by cases h
theorem nn {α:Type} {a:α} {p:Prop} (h:none=some a):p:=by cases h
inductive V where
  | none | bool (b:Bool) | int (i:Int) | str (s:List Nat) | tup (l:List V) | loc (n:Nat) | rng (a b c:Int) | fn (k:Nat) | ro (l:List V)
inductive O where
  | list (l:List V) | dict (es:List (List Nat×V)) | inst (c:Nat) (fs:List (Nat×V))
noncomputable abbrev Hp:=List O
noncomputable abbrev Lo:=List (Option V)
inductive BOp where | add | sub | mul | fdiv | mod
inductive COp where | eq | ne | lt | le | gt | ge | is | isnot | isin | notin
inductive BM where | append | pop | extend | reverse | join | replace | startswith | lstrip | split | get
inductive Pr where | len | abs | int | chr | ord | list | range | min | str
set_option genCtorIdx false in
inductive IK where | int | str | tuple | cls (k:Nat)
set_option genCtorIdx false in
inductive CT where | one (i:Nat) | many (is:List Nat)
inductive ME where
  | bad
  | lit (v:V) | loc (i:Nat) | glob (v:V)
  | tup (es:List ME) | lst (es:List ME) | dict (es:List ME)
  | attr (e:ME) (a:Nat) | idx (e i:ME) | slice (e lo hi st:ME)
  | bin (op:BOp) (a b:ME) | neg (a:ME) | not (a:ME)
  | cmp (op:COp) (a b:ME)
  | and (es:List ME) | or (es:List ME) | ife (t a b:ME)
  | call (f:ME) (es:List ME) | new (c:Nat) (es:List ME)
  | meth (o:ME) (m:Nat) (es:List ME) | bmeth (o:ME) (m:BM) (es:List ME)
  | prim (p:Pr) (es:List ME) | isin (e:ME) (k:IK)
  | comp (elt src:ME) (t:CT) (k:Nat) (conds:List ME)
set_option genCtorIdx false in
inductive Tg where
  | loc (i:Nat) | attr (o:ME) (a:Nat) | idx (o i:ME) | tup (ts:List Tg)
set_option genCtorIdx false in
inductive MS where
  | bad
  | expr (e:ME) | ret (e:ME) | asg (t:Tg) (e:ME) | auga (o:ME) (a:Nat) (op:BOp) (e:ME)
  | ife (t:ME) (b o:List MS) | whl (t:ME) (b:List MS) | for (t:CT) (it:ME) (b:List MS) | brk | cont
inductive Fl where | next | brk | cont | ret (v:V)
structure FI where
  np:Nat
  ns:Nat
  body:List MS
structure CI where
  init:Nat
  meths:List (Nat×Nat)
structure Pg where
  fns:List FI
  cls:List CI
noncomputable def lim:Nat:=1048576
noncomputable def big:Int:=1152921504606846976
noncomputable def mapO {α β:Type} (f:α→Option β):List α→Option (List β)
  | []=>some []
  | a::r=>match f a with
    | some b=>(match mapO f r with | some bs=>some (b::bs) | Option.none=>Option.none)
    | Option.none=>Option.none
theorem mapO_2 {α β:Type}  {f a r}:mapO (α:=α) (β:=β) f (a::r)=(match f a with
    | some b=>(match mapO f r with | some bs=>some (b::bs) | Option.none=>Option.none)
    | Option.none=>Option.none):=rfl
noncomputable def lookS {α:Type} (k:List Nat):List (List Nat×α)→Option α
  | []=>none
  | (j,v)::r=>if j == k then some v else lookS k r
theorem lookS_1 {α:Type}  {k}:lookS (α:=α) k ([])=(none):=rfl
theorem lookS_2 {α:Type}  {k j v r}:lookS (α:=α) k ((j,v)::r)=(if j == k then some v else lookS k r):=rfl
noncomputable def putS {α:Type} (k:List Nat) (v:α):List (List Nat×α)→List (List Nat×α)
  | []=>[(k,v)]
  | (j,u)::r=>if j == k then(j,v)::r else(j,u)::putS k v r
theorem putS_1 {α:Type}  {k v}:putS (α:=α) k v ([])=([(k,v)]):=rfl
theorem putS_2 {α:Type}  {k v j u r}:putS (α:=α) k v ((j,u)::r)=(if j == k then(j,v)::r else(j,u)::putS k v r):=rfl
noncomputable def lookN {α:Type} (k:Nat):List (Nat×α)→Option α
  | []=>none
  | (j,v)::r=>if j == k then some v else lookN k r
theorem lookN_1 {α:Type}  {k}:lookN (α:=α) k ([])=(none):=rfl
theorem lookN_2 {α:Type}  {k j v r}:lookN (α:=α) k ((j,v)::r)=(if j == k then some v else lookN k r):=rfl
noncomputable def putN {α:Type} (k:Nat) (v:α):List (Nat×α)→List (Nat×α)
  | []=>[(k,v)]
  | (j,u)::r=>if j == k then(j,v)::r else(j,u)::putN k v r
theorem putN_1 {α:Type}  {k v}:putN (α:=α) k v ([])=([(k,v)]):=rfl
theorem putN_2 {α:Type}  {k v j u r}:putN (α:=α) k v ((j,u)::r)=(if j == k then(j,v)::r else(j,u)::putN k v r):=rfl
noncomputable def onI {β:Type} (a:V) (f:Int→Option β):Option β:=match a with | .int i=>f i | _=>none
noncomputable def onS {β:Type} (a:V) (f:List Nat→Option β):Option β:=match a with | .str s=>f s | _=>none
noncomputable def onT {β:Type} (a:V) (f:List V→Option β):Option β:=match a with | .tup s=>f s | _=>none
noncomputable def onN {β:Type} (a:V) (f:Nat→Option β):Option β:=match a with | .loc n=>f n | _=>none
noncomputable def atL {β:Type} (H:Hp) (n:Nat) (f:List V→Option β):Option β:=match H[n]? with | some (.list l)=>f l | _=>none
noncomputable def atD {β:Type} (H:Hp) (n:Nat) (f:List (List Nat×V)→Option β):Option β:=match H[n]? with | some (.dict l)=>f l | _=>none
noncomputable def atI {β:Type} (H:Hp) (n:Nat) (f:Nat→List (Nat×V)→Option β):Option β:=match H[n]? with | some (.inst c l)=>f c l | _=>none
noncomputable def on0 {β:Type} (vs:List V) (f:Option β):Option β:=match vs with | []=>f | _::_=>none
noncomputable def on1 {β:Type} (vs:List V) (f:V→Option β):Option β:=match vs with | []=>none | a::r=>on0 r (f a)
noncomputable def on2 {β:Type} (vs:List V) (f:V→V→Option β):Option β:=match vs with | []=>none | a::r=>on1 r (f a)
noncomputable def gd {β:Type} (c:Prop) [Decidable c] (x:β):Option β:=if c then some x else none
noncomputable def dat (H:Hp):Nat→V→Option PyData
  | 0,_=>none
  | n+1,v=>match v with
    | .none=>some .none
    | .bool b=>some (.bool b)
    | .int i=>some (.int i)
    | .str s=>gd (s.all (· < 128)=true) (.str ⟨s.toArray⟩)
    | .tup l=>(mapO (dat H n) l).map .tuple
    | .loc i=>atL H i fun l=>(mapO (dat H n) l).map .list
    | _=>none
noncomputable def isNone0 (a:V):Bool:=match a with | .none=>true | _=>false
theorem onI_some_k {β:Type} {a:V} {f:Int→Option β} {r:β} (e:onI a f=some r) {zg:Prop} (zk:∀ i,(a=.int i)→(f i=some r)→zg):zg:=by
  obtain⟨i,zh1,zh2⟩:∃ i,a=.int i∧f i=some r:=by
    cases a <;> first | exact⟨_,rfl,e⟩ | cases e
  exact zk i zh1 zh2
theorem onS_some_k {β:Type} {a:V} {f:List Nat→Option β} {r:β} (e:onS a f=some r) {zg:Prop} (zk:∀ i,(a=.str i)→(f i=some r)→zg):zg:=by
  obtain⟨i,zh1,zh2⟩:∃ i,a=.str i∧f i=some r:=by
    cases a <;> first | exact⟨_,rfl,e⟩ | cases e
  exact zk i zh1 zh2
theorem onT_some_k {β:Type} {a:V} {f:List V→Option β} {r:β} (e:onT a f=some r) {zg:Prop} (zk:∀ i,(a=.tup i)→(f i=some r)→zg):zg:=by
  obtain⟨i,zh1,zh2⟩:∃ i,a=.tup i∧f i=some r:=by
    cases a <;> first | exact⟨_,rfl,e⟩ | cases e
  exact zk i zh1 zh2
theorem onN_some_k {β:Type} {a:V} {f:Nat→Option β} {r:β} (e:onN a f=some r) {zg:Prop} (zk:∀ i,(a=.loc i)→(f i=some r)→zg):zg:=by
  obtain⟨i,zh1,zh2⟩:∃ i,a=.loc i∧f i=some r:=by
    cases a <;> first | exact⟨_,rfl,e⟩ | cases e
  exact zk i zh1 zh2
theorem atL_some_k {β:Type} {H:Hp} {n:Nat} {f:List V→Option β} {r:β} (e:atL H n f=some r) {zg:Prop} (zk:∀ l,(H[n]? = some (.list l))→(f l=some r)→zg):zg:=by
  obtain⟨l,zh1,zh2⟩:∃ l,H[n]? = some (.list l)∧f l=some r:=by
    unfold atL at e
    generalize H[n]? = o at e ⊢
    cases o with
    | none=>cases e
    | some o=>cases o with
      | list l=>exact⟨l,rfl,e⟩
      | _=>cases e
  exact zk l zh1 zh2
theorem atD_some_k {β:Type} {H:Hp} {n:Nat} {f:List (List Nat×V)→Option β} {r:β} (e:atD H n f=some r) {zg:Prop} (zk:∀ l,(H[n]? = some (.dict l))→(f l=some r)→zg):zg:=by
  obtain⟨l,zh1,zh2⟩:∃ l,H[n]? = some (.dict l)∧f l=some r:=by
    unfold atD at e
    generalize H[n]? = o at e ⊢
    cases o with
    | none=>cases e
    | some o=>cases o with
      | dict l=>exact⟨l,rfl,e⟩
      | _=>cases e
  exact zk l zh1 zh2
theorem atI_some_k {β:Type} {H:Hp} {n:Nat} {f:Nat→List (Nat×V)→Option β} {r:β} (e:atI H n f=some r) {zg:Prop} (zk:∀ c,∀ l,(H[n]? = some (.inst c l))→(f c l=some r)→zg):zg:=by
  obtain⟨c,l,zh1,zh2⟩:∃ c l,H[n]? = some (.inst c l)∧f c l=some r:=by
    unfold atI at e
    generalize H[n]? = o at e ⊢
    cases o with
    | none=>cases e
    | some o=>cases o with
      | inst c l=>exact⟨c,l,rfl,e⟩
      | _=>cases e
  exact zk c l zh1 zh2
theorem on0_some {β:Type} {vs:List V} {f:Option β} {r:β} (e:on0 vs f=some r):vs=[]∧f=some r:=by
  cases vs with
  | nil=>exact⟨rfl,e⟩
  | cons a l=>cases e
theorem on1_some_k {β:Type} {vs:List V} {f:V→Option β} {r:β} (e:on1 vs f=some r) {zg:Prop} (zk:∀ a,(vs=[a])→(f a=some r)→zg):zg:=by
  cases vs with
  | nil=>cases e
  | cons a l=>obtain⟨rfl,e⟩:=on0_some (vs:=l) e; exact zk a rfl e
theorem on1_some {β:Type} {vs:List V} {f:V→Option β} {r:β} (e:on1 vs f=some r):∃ a,vs=[a]∧f a=some r:=on1_some_k e fun a zh1 zh2=>⟨a,zh1,zh2⟩
theorem on2_some_k {β:Type} {vs:List V} {f:V→V→Option β} {r:β} (e:on2 vs f=some r) {zg:Prop} (zk:∀ a,∀ b,(vs=[a,b])→(f a b=some r)→zg):zg:=by
  cases vs with
  | nil=>cases e
  | cons a l=>obtain⟨b,rfl,e⟩:=on1_some (vs:=l) e; exact zk a b rfl e
theorem gd_some {β:Type} {c:Prop} [Decidable c] {x r:β} (e:gd c x=some r):c∧x=r:=by
  unfold gd at e
  by_cases h:c
  · rw [if_pos h] at e; exact⟨h,Option.some.inj e⟩
  · rw [if_neg h] at e; cases e
theorem map_some_k {α β:Type} {o:Option α} {f:α→β} {r:β} (e:o.map f=some r) {zg:Prop} (zk:∀ a,(o=some a)→(f a=r)→zg):zg:=by
  cases o with
  | none=>cases e
  | some a=>exact zk a rfl (Option.some.inj e)
theorem isNone0_eq {a:V} (h:isNone0 a=true):a=.none:=by cases a <;> first | rfl | cases h
noncomputable def eqDict (es fs:List (List Nat×V)):Option Bool:=match es,fs with
  | [(k,v)],[(j,u)]=>if k == j then onS v fun s=>onS u fun t=>some (s == t) else some false
  | _,_=>none
noncomputable def eqD (H:Hp) (a b:V):Option Bool:=match dat H 8 a with
  | some x=>(match dat H 8 b with | some y=>some (PyData.eqv x y) | none=>none)
  | none=>none
theorem eqD_some_k {H:Hp} {a b:V} {r:Bool} (e:eqD H a b=some r) {zg:Prop} (zk:∀ x,∀ y,(dat H 8 a=some x)→(dat H 8 b=some y)→(PyData.eqv x y=r)→zg):zg:=by
  obtain⟨x,y,zh1,zh2,zh3⟩:∃ x y,dat H 8 a=some x∧dat H 8 b=some y∧PyData.eqv x y=r:=by
    unfold eqD at e
    cases h:dat H 8 a with
    | none=>rw [h] at e; cases e
    | some x =>
      rw [h] at e
      cases h':dat H 8 b with
      | none=>rw [h'] at e; cases e
      | some y=>rw [h'] at e; exact⟨x,y,rfl,rfl,Option.some.inj e⟩
  exact zk x y zh1 zh2 zh3
noncomputable def fastEq (H:Hp) (a b:V):Option (Option Bool):=match a with
  | .str s=>(match b with | .str t=>some (some (s == t)) | _=>none)
  | .int i=>(match b with | .int j=>some (some (i == j)) | _=>none)
  | .tup _=>(match b with | .str _=>some (some false) | _=>none)
  | .loc i=>(match b with | .loc j=>(match H[i]? with | some (.dict es)=>some (atD H j (eqDict es)) | _=>none) | _=>none)
  | _=>none
noncomputable def eqV (H:Hp) (a b:V):Option Bool:=match fastEq H a b with
  | some r=>r
  | none=>none
noncomputable def hasPre:List Nat→List Nat→Bool
  | [],_=>true
  | _::_,[]=>false
  | a::r,b::t=>a == b && hasPre r t
theorem hasPre_1  {zu1}:hasPre ([]) zu1=(true):=rfl
theorem hasPre_2  {zu1 zu2}:hasPre (zu1::zu2) ([])=(false):=rfl
theorem hasPre_3  {a r b t}:hasPre (a::r) (b::t)=(a == b && hasPre r t):=rfl
noncomputable def strsOf:List V→Option (List (List Nat))
  | []=>some []
  | .str s::r=>(match strsOf r with | some l=>some (s::l) | none=>none)
  | _=>none
theorem strsOf_2  {s r}:strsOf (.str s::r)=((match strsOf r with | some l=>some (s::l) | none=>none)):=rfl
noncomputable def strsOf' {β:Type} (l:List V) (f:List (List Nat)→Option β):Option β:=match strsOf l with | some ss=>f ss | none=>none
theorem strsOf'_some_k {β:Type} {l:List V} {f:List (List Nat)→Option β} {r:β} (e:strsOf' l f=some r) {zg:Prop} (zk:∀ ss,(strsOf l=some ss)→(f ss=some r)→zg):zg:=by
  obtain⟨ss,zh1,zh2⟩:∃ ss,strsOf l=some ss∧f ss=some r:=by
    unfold strsOf' at e
    cases h:strsOf l with
    | none=>rw [h] at e; cases e
    | some ss=>rw [h] at e; exact⟨ss,rfl,e⟩
  exact zk ss zh1 zh2
noncomputable def inV (H:Hp) (a b:V):Option Bool:=onS a fun s=>match b with
  | .tup l=>strsOf' l fun ss=>some (ss.any (· == s))
  | .loc n=>atL H n fun l=>strsOf' l fun ss=>some (ss.any (· == s))
  | _=>none
noncomputable def intsOf:List V→Option (List Int)
  | []=>some []
  | .int i::r=>(match intsOf r with | some l=>some (i::l) | none=>none)
  | _=>none
noncomputable def ltV (H:Hp) (a b:V):Option Bool:=match a with
  | .int i=>onI b fun j=>some (decide (i<j))
  | _=>none
noncomputable def fastNe (a b:V):Option Bool:=onS a fun s=>onS b fun t=>some (!(s == t))
noncomputable def neV (H:Hp) (a b:V):Option Bool:=match fastNe a b with
  | some r=>some r
  | none=>(eqD H a b).map (!·)
noncomputable def isV' (a b:V):Option Bool:=if isNone0 b then some (isNone0 a) else none
noncomputable def cmpV (H:Hp) (op:COp) (a b:V):Option Bool:=match op with
  | .eq=>eqV H a b
  | .ne=>neV H a b
  | .lt=>ltV H a b
  | .le=>onI a fun i=>onI b fun j=>some (decide (i≤j))
  | .gt=>onI a fun i=>onI b fun j=>some (decide (j<i))
  | .ge=>none
  | .is=>isV' a b
  | .isnot=>(isV' a b).map (!·)
  | .isin=>inV H a b
  | .notin=>(inV H a b).map (!·)
noncomputable def repL {α:Type} (l:List α):Nat→List α
  | 0=>[]
  | n+1=>l++repL l n
noncomputable def addV (a b:V) (H:Hp):Option (V×Hp):=match a with
  | .int i=>onI b fun j=>some (.int (i+j),H)
  | .str s=>onS b fun t=>gd (s.length+t.length≤lim) (.str (s++t),H)
  | .tup s=>onT b fun t=>gd (s.length+t.length≤lim) (.tup (s++t),H)
  | .loc i=>onN b fun j=>atL H i fun l=>atL H j fun m=>gd (l.length+m.length≤lim) (.loc H.length,H++[.list (l++m)])
  | _=>none
noncomputable def mulV (a b:V) (H:Hp):Option (V×Hp):=match a with
  | .int i=>onI b fun j=>gd (i.natAbs<1152921504606846976∧j.natAbs<1152921504606846976) (.int (i * j),H)
  | .str s=>onI b fun j=>gd (0≤j∧s.length≤1024∧j≤1024) (.str (repL s j.toNat),H)
  | _=>none
noncomputable def binV (op:BOp) (a b:V) (H:Hp):Option (V×Hp):=match op with
  | .add=>addV a b H
  | .sub=>onI a fun i=>onI b fun j=>some (.int (i - j),H)
  | .mul=>mulV a b H
  | .fdiv=>onI a fun i=>onI b fun j=>gd (0<j∧i.natAbs<1152921504606846976∧j<1152921504606846976) (.int (i / j),H)
  | .mod=>onI a fun i=>onI b fun j=>gd (0<j) (.int (i % j),H)
noncomputable def augV (op:BOp) (a b:V):Option V:=onI a fun i=>onI b fun j=>match op with
  | .add=>some (.int (i+j))
  | _=>none
noncomputable def idxL {α:Type} (l:List α) (i:Int):Option α:=if 0≤i then l[i.toNat]? else none
noncomputable def idxV (H:Hp) (a i:V):Option V:=match a with
  | .tup l=>onI i (idxL l)
  | .str s=>onI i fun i=>(idxL s i).map fun c=>.str [c]
  | .loc n=>(match i with
    | .int i=>atL H n fun l=>idxL l i
    | _=>none)
  | _=>none
noncomputable def noneV {β:Type} (a:V) (x:Option β):Option β:=if isNone0 a then x else none
theorem noneV_some {β:Type} {a:V} {x:Option β} {r:β} (e:noneV a x=some r):a=.none∧x=some r:=by
  unfold noneV at e
  cases h:isNone0 a with
  | true=>rw [h] at e; exact⟨isNone0_eq h,e⟩
  | false=>rw [h] at e; cases e
noncomputable def sliceR {α:Type} (l:List α) (lo hi st:V):Option (List α):=noneV lo (match hi with
  | .none=>onI st fun k=>gd (k = -1) l.reverse
  | .int j=>(match st with
    | .none=>gd (0≤j) (l.take j.toNat)
    | .int k=>gd (j=0∧k = -1) (l.drop 1).reverse
    | _=>none)
  | _=>none)
noncomputable def sliceL {α:Type} (l:List α) (lo hi st:V):Option (List α):=noneV st (match lo with
  | .none=>onI hi fun j=>gd (0≤j) (l.take j.toNat)
  | .int i=>(match hi with
    | .none=>gd (0≤i) (l.drop i.toNat)
    | .int j=>gd (0≤i∧0≤j) ((l.take j.toNat).drop i.toNat)
    | _=>none)
  | _=>none)
noncomputable def sliceV (a lo hi st:V) (H:Hp):Option (V×Hp):=match a with
  | .str s=>(sliceL s lo hi st).map fun t=>(.str t,H)
  | .ro l=>noneV lo (noneV st (onI hi fun j=>gd (0≤j) (.loc H.length,H++[.list (l.take j.toNat)])))
  | .loc n=>atL H n fun l=>(sliceR l lo hi st).map fun t=>(.loc H.length,H++[.list t])
  | _=>none
noncomputable def isV (v:V) (k:IK):Option Bool:=match k with
  | .int=>none
  | .str=>(match v with | .int _=>some false | .bool _=>some false | .none=>some false | .str _=>some true | .tup _=>some false | _=>none)
  | .tuple=>(match v with | .int _=>some false | .bool _=>some false | .none=>some false | .str _=>some false | .tup _=>some true | _=>none)
  | .cls _=>(match v with | .int _=>some false | .str _=>some false | _=>none)
noncomputable def rngLen (a b c:Int):Nat:=if 0<c then(if a<b then((b - a+c - 1) / c).toNat else 0) else if c<0 then(if b<a then((a - b - c - 1) / (-c)).toNat else 0) else 0
noncomputable def rngL (a c:Int):Nat→List Int
  | 0=>[]
  | n+1=>a::rngL (a+c) c n
theorem rngL_2  {a c n}:rngL a c (n+1)=(a::rngL (a+c) c n):=rfl
noncomputable def minL:Int→List Int→Int
  | m,[]=>m
  | m,a::r=>minL (if a<m then a else m) r
noncomputable def lenV (a:V) (H:Hp):Option Nat:=match a with
  | .str s=>some s.length
  | .tup s=>some s.length
  | .loc n=>atL H n fun l=>some l.length
  | _=>none
noncomputable def intV (a:V):Option Int:=match a with
  | .int i=>some i
  | _=>none
noncomputable def listV (a:V) (H:Hp):Option (List V):=match a with
  | .tup l=>some l
  | .rng a b c=>gd (rngLen a b c≤1024∧a.natAbs<1048576∧b.natAbs<1048576∧(c=1∨c = -1)) ((rngL a c (rngLen a b c)).map .int)
  | _=>none
noncomputable def rangeV (vs:List V):Option V:=match vs with
  | []=>none
  | x::r=>onI x fun a=>match r with
    | []=>gd (a.natAbs<1048576) (.rng 0 a 1)
    | y::r=>onI y fun b=>match r with
      | []=>gd (a.natAbs<1048576∧b.natAbs<1048576) (.rng a b 1)
      | z::r=>onI z fun c=>on0 r (gd (a.natAbs<1048576∧b.natAbs<1048576∧(c=1∨c = -1)) (.rng a b c))
noncomputable def minV (H:Hp) (n:Nat):Option V:=atL H n fun l=>(match intsOf l with | some (a::r)=>some (.int (minL a r)) | _=>none)
noncomputable def primV (p:Pr) (vs:List V) (H:Hp):Option (V×Hp):=match p with
  | .len=>on1 vs fun a=>(lenV a H).map fun(n:Nat)=>(V.int (n:Int),H)
  | .abs=>on1 vs fun a=>onI a fun i=>some (.int i.natAbs,H)
  | .int=>on1 vs fun a=>(intV a).map fun n=>(.int n,H)
  | .chr=>none
  | .ord=>none
  | .list=>on1 vs fun a=>(listV a H).map fun l=>(.loc H.length,H++[.list l])
  | .range=>(rangeV vs).map fun v=>(v,H)
  | .min=>none
  | .str=>none
noncomputable def catL:List (List Nat)→List Nat
  | []=>[]
  | s::r=>s++catL r
theorem catL_1 :catL ([])=([]):=rfl
theorem catL_2  {s r}:catL (s::r)=(s++catL r):=rfl
noncomputable def lstripL (cs:List Nat):List Nat→List Nat
  | []=>[]
  | c::r=>if cs.contains c then lstripL cs r else c::r
noncomputable def splitL (c:Nat):List Nat→List (List Nat)
  | []=>[[]]
  | d::r=>if d == c then []::splitL c r else(match splitL c r with | w::ws=>(d::w)::ws | []=>[[d]])
noncomputable def dropPar:List Nat→List Nat
  | 40::41::r=>dropPar r
  | c::r=>c::dropPar r
  | []=>[]
noncomputable def joinV (H:Hp) (n:Nat):Option V:=atL H n fun l=>strsOf' l fun ss=>gd ((catL ss).length≤lim) (.str (catL ss))
noncomputable def isS (v:V) (x:List Nat):Bool:=match v with | .str s=>s == x | _=>false
noncomputable def bmV (m:BM) (o:V) (vs:List V) (H:Hp):Option (V×Hp):=match m with
  | .append=>onN o fun n=>on1 vs fun v=>atL H n fun l=>gd (l.length<lim) (.none,H.set n (.list (l++[v])))
  | .pop=>onN o fun n=>on0 vs (atL H n fun l=>(match l.getLast? with | some v=>some (v,H.set n (.list l.dropLast)) | none=>none))
  | .extend=>onN o fun n=>on1 vs fun a=>onN a fun k=>atL H n fun l=>atL H k fun m=>gd (n≠k∧l.length+m.length<lim) (.none,H.set n (.list (l++m)))
  | .reverse=>onN o fun n=>on0 vs (atL H n fun l=>some (.none,H.set n (.list l.reverse)))
  | .join=>onS o fun s=>on1 vs fun a=>onN a fun n=>(match s with | []=>(joinV H n).map fun v=>(v,H) | _::_=>none)
  | .replace=>none
  | .startswith=>onS o fun s=>on1 vs fun a=>onS a fun t=>some (.bool (hasPre t s),H)
  | .lstrip=>none
  | .split=>none
  | .get=>onN o fun n=>on2 vs fun a d=>onS a fun k=>atD H n fun es=>some ((lookS k es).getD d,H)
noncomputable def bmK (m:BM) (o:V) (H:Hp):Bool:=match o with
  | .str _=>(match m with | .join=>true | .replace=>true | .startswith=>true | .lstrip=>true | .split=>true | _=>false)
  | .loc n=>(match H[n]? with
    | some (.list _)=>(match m with | .append=>true | .pop=>true | .extend=>true | .reverse=>true | _=>false)
    | some (.dict _)=>(match m with | .get=>true | _=>false)
    | _=>false)
  | _=>false
noncomputable def getA (H:Hp) (o:V) (a:Nat):Option V:=onN o fun n=>atI H n fun _ fs=>lookN a fs
noncomputable def setA (H:Hp) (o:V) (a:Nat) (v:V):Option Hp:=onN o fun n=>atI H n fun c fs=>some (H.set n (.inst c (putN a v fs)))
noncomputable def setI (H:Hp) (o i v:V):Option Hp:=onN o fun n=>match i with
  | .int i=>atL H n fun l=>gd (0≤i∧i.toNat<l.length) (H.set n (.list (l.set i.toNat v)))
  | .str k=>atD H n fun es=>gd (es.length<1024) (H.set n (.dict (putS k v es)))
  | _=>none
set_option genCtorIdx false in
inductive It where
  | seq (l:List V) | lst (n i:Nat) | rng (a c:Int) (k:Nat)
noncomputable def iterV (H:Hp) (v:V):Option It:=match v with
  | .tup l=>some (.seq l)
  | .str s=>gd (s.all (· < 128)=true) (.seq (s.map fun c=>.str [c]))
  | .loc n=>atL H n fun _=>some (.lst n 0)
  | .rng a b c=>gd (a.natAbs<1048576∧b.natAbs<1048576∧(c=1∨c = -1)) (.rng a c (rngLen a b c))
  | _=>none
noncomputable def nextI (H:Hp):It→Option (Option (V×It))
  | .seq []=>some none
  | .seq (v::r)=>some (some (v,.seq r))
  | .lst n i=>atL H n fun l=>(match l[i]? with | some v=>some (some (v,.lst n (i+1))) | none=>some none)
  | .rng _ _ 0=>some none
  | .rng a c (k+1)=>some (some (.int a,.rng (a+c) c k))
theorem nextI_3  {H n i}:nextI H (.lst n i)=(atL H n fun l=>(match l[i]? with | some v=>some (some (v,.lst n (i+1))) | none=>some none)):=rfl
noncomputable def setMany:List Nat→List V→Lo→Option Lo
  | [],[],l=>some l
  | i::is,v::vs,l=>setMany is vs (l.set i (some v))
  | _,_,_=>none
theorem setMany_1  {l}:setMany ([]) ([]) l=(some l):=rfl
theorem setMany_2  {i is v vs l}:setMany (i::is) (v::vs) l=(setMany is vs (l.set i (some v))):=rfl
noncomputable def setCT (t:CT) (v:V) (l:Lo):Option Lo:=match t with
  | .one i=>some (l.set i (some v))
  | .many is=>(match v with | .tup vs=>setMany is vs l | _=>none)
noncomputable def bnd {α β:Type} (m:Option (α×Hp)) (f:α→Hp→Option β):Option β:=match m with
  | some (a,H)=>f a H
  | none=>none
noncomputable abbrev CallT:=Nat→List V→Hp→Option (V×Hp)
noncomputable def compN (cond:Lo→Hp→Option (Bool×Hp)) (elt:Lo→Hp→Option (V×Hp)) (t:CT) (l:Lo):Nat→It→List V→Hp→Option (List V×Hp)
  | 0,_,_,_=>none
  | n+1,it,acc,H=>match nextI H it with
    | none=>none
    | some none=>some (acc.reverse,H)
    | some (some (v,it'))=>(match setCT t v l with
      | none=>none
      | some l'=>bnd (cond l' H) fun b H'=>if b then bnd (elt l' H') fun r H''=>compN cond elt t l n it' (r::acc) H'' else compN cond elt t l n it' acc H')
theorem compN_1  {cond elt t l zu1 zu2 zu3}:compN cond elt t l 0 zu1 zu2 zu3=(none):=rfl
theorem compN_2  {cond elt t l n it acc H}:compN cond elt t l (n+1) it acc H=(match nextI H it with
    | none=>none
    | some none=>some (acc.reverse,H)
    | some (some (v,it'))=>(match setCT t v l with
      | none=>none
      | some l'=>bnd (cond l' H) fun b H'=>if b then bnd (elt l' H') fun r H''=>compN cond elt t l n it' (r::acc) H'' else compN cond elt t l n it' acc H')):=rfl
section
variable (P:Pg) (call:CallT)
mutual
noncomputable def evE:ME→Lo→Hp→Option (V×Hp)
  | .bad,_,_=>none
  | .lit v,_,H=>some (v,H)
  | .loc i,l,H=>(match l[i]? with | some (some v)=>some (v,H) | _=>none)
  | .glob v,_,H=>some (v,H)
  | .tup es,l,H=>bnd (evL es l H) fun vs H=>some (.tup vs,H)
  | .lst es,l,H=>bnd (evL es l H) fun vs H=>some (.loc H.length,H++[.list vs])
  | .dict es,l,H=>bnd (evD es l H) fun es H=>some (.loc H.length,H++[.dict es])
  | .attr e a,l,H=>bnd (evE e l H) fun o H=>(match getA H o a with | some v=>some (v,H) | none=>none)
  | .idx e i,l,H=>bnd (evE e l H) fun o H=>bnd (evE i l H) fun i H=>(match idxV H o i with | some v=>some (v,H) | none=>none)
  | .slice e lo hi st,l,H=>bnd (evE e l H) fun o H=>bnd (evE lo l H) fun lo H=>bnd (evE hi l H) fun hi H=>bnd (evE st l H) fun st H=>sliceV o lo hi st H
  | .bin op a b,l,H=>bnd (evE a l H) fun a H=>bnd (evE b l H) fun b H=>binV op a b H
  | .neg a,l,H=>bnd (evE a l H) fun a H=>(match a with | .int i=>some (.int (-i),H) | _=>none)
  | .not a,l,H=>bnd (evE a l H) fun a H=>(match a with | .bool b=>some (.bool (!b),H) | _=>none)
  | .cmp op a b,l,H=>bnd (evE a l H) fun a H=>bnd (evE b l H) fun b H=>(match cmpV H op a b with | some r=>some (.bool r,H) | none=>none)
  | .and es,l,H=>evAnd es l H
  | .or es,l,H=>evOr es l H
  | .ife t a b,l,H=>bnd (evE t l H) fun t H=>(match t with | .bool true=>evE a l H | .bool false=>evE b l H | _=>none)
  | .call f es,l,H=>bnd (evE f l H) fun f H=>bnd (evL es l H) fun vs H=>(match f with | .fn k=>call k vs H | _=>none)
  | .new c es,l,H=>bnd (evL es l H) fun vs H=>(match P.cls[c]? with
    | some ci=>bnd (call ci.init (.loc H.length::vs) (H++[.inst c []])) fun r H'=>(match r with | .none=>some (.loc H.length,H') | _=>none)
    | none=>none)
  | .meth o m es,l,H=>bnd (evE o l H) fun o H=>(match o with
    | .loc n=>(match H[n]? with
      | some (.inst c _)=>(match P.cls[c]? with
        | some ci=>(match lookN m ci.meths with
          | some k=>bnd (evL es l H) fun vs H=>call k (o::vs) H
          | none=>none)
        | none=>none)
      | _=>none)
    | _=>none)
  | .bmeth o m es,l,H=>bnd (evE o l H) fun o H=>if bmK m o H then bnd (evL es l H) fun vs H=>bmV m o vs H else none
  | .prim p es,l,H=>bnd (evL es l H) fun vs H=>primV p vs H
  | .isin e k,l,H=>bnd (evE e l H) fun v H=>(match isV v k with | some b=>some (.bool b,H) | none=>none)
  | .comp elt src t k cs,l,H=>bnd (evE src l H) fun s H=>(match iterV H s with
    | some it=>bnd (compN (fun l H=>evC cs l H) (fun l H=>evE elt l H) t (l++List.replicate k none) 1048576 it [] H) fun vs H =>
        if vs.length≤lim then some (.loc H.length,H++[.list vs]) else none
    | none=>none)
noncomputable def evL:List ME→Lo→Hp→Option (List V×Hp)
  | [],_,H=>some ([],H)
  | e::r,l,H=>bnd (evE e l H) fun v H=>bnd (evL r l H) fun vs H=>some (v::vs,H)
noncomputable def evD:List ME→Lo→Hp→Option (List (List Nat×V)×Hp)
  | [],_,H=>some ([],H)
  | [_],_,_=>none
  | k::v::r,l,H=>bnd (evE k l H) fun k H=>bnd (evE v l H) fun v H=>bnd (evD r l H) fun es H=>(match k with
    | .str s=>if(lookS s es).isNone then some ((s,v)::es,H) else none
    | _=>none)
noncomputable def evAnd:List ME→Lo→Hp→Option (V×Hp)
  | [],_,H=>some (.bool true,H)
  | e::r,l,H=>bnd (evE e l H) fun v H=>(match v with | .bool true=>evAnd r l H | .bool false=>some (.bool false,H) | _=>none)
noncomputable def evOr:List ME→Lo→Hp→Option (V×Hp)
  | [],_,H=>some (.bool false,H)
  | e::r,l,H=>bnd (evE e l H) fun v H=>(match v with | .bool false=>evOr r l H | .bool true=>some (.bool true,H) | _=>none)
noncomputable def evC:List ME→Lo→Hp→Option (Bool×Hp)
  | [],_,H=>some (true,H)
  | e::r,l,H=>bnd (evE e l H) fun v H=>(match v with | .bool true=>evC r l H | .bool false=>some (false,H) | _=>none)
end
theorem evC_1  {zu1 H}:evC P call ([]) zu1 H=(some (true,H)):=rfl
theorem evC_2  {e r l H}:evC P call (e::r) l H=(bnd (evE P call e l H) fun v H=>(match v with | .bool true=>evC P call r l H | .bool false=>some (false,H) | _=>none)):=rfl
theorem evOr_1  {zu1 H}:evOr P call ([]) zu1 H=(some (.bool false,H)):=rfl
theorem evOr_2  {e r l H}:evOr P call (e::r) l H=(bnd (evE P call e l H) fun v H=>(match v with | .bool false=>evOr P call r l H | .bool true=>some (.bool true,H) | _=>none)):=rfl
theorem evAnd_1  {zu1 H}:evAnd P call ([]) zu1 H=(some (.bool true,H)):=rfl
theorem evAnd_2  {e r l H}:evAnd P call (e::r) l H=(bnd (evE P call e l H) fun v H=>(match v with | .bool true=>evAnd P call r l H | .bool false=>some (.bool false,H) | _=>none)):=rfl
theorem evL_1  {zu1 H}:evL P call ([]) zu1 H=(some ([],H)):=rfl
theorem evL_2  {e r l H}:evL P call (e::r) l H=(bnd (evE P call e l H) fun v H=>bnd (evL P call r l H) fun vs H=>some (v::vs,H)):=rfl
end
noncomputable def bndS {β:Type} (m:Option (Lo×Hp)) (f:Lo→Hp→Option β):Option β:=match m with
  | some (l,H)=>f l H
  | none=>none
noncomputable def unpk (H:Hp) (v:V):Option (List V):=match v with
  | .tup vs=>some vs
  | .loc n=>atL H n some
  | _=>none
section
variable (ev:ME→Lo→Hp→Option (V×Hp))
mutual
noncomputable def asgT:Tg→V→Lo→Hp→Option (Lo×Hp)
  | .loc i,v,l,H=>some (l.set i (some v),H)
  | .attr o a,v,l,H=>bnd (ev o l H) fun o H=>(match setA H o a v with | some H=>some (l,H) | none=>none)
  | .idx o i,v,l,H=>bnd (ev o l H) fun o H=>bnd (ev i l H) fun i H=>(match setI H o i v with | some H=>some (l,H) | none=>none)
  | .tup ts,v,l,H=>(match unpk H v with | some vs=>asgTs ts vs l H | none=>none)
noncomputable def asgTs:List Tg→List V→Lo→Hp→Option (Lo×Hp)
  | [],[],l,H=>some (l,H)
  | t::ts,v::vs,l,H=>bndS (asgT t v l H) fun l H=>asgTs ts vs l H
  | _,_,_,_=>none
end
theorem asgT_1  {i v l H}:asgT ev (.loc i) v l H=(some (l.set i (some v),H)):=rfl
theorem asgT_4  {ts v l H}:asgT ev (.tup ts) v l H=((match unpk H v with | some vs=>asgTs ev ts vs l H | none=>none)):=rfl
theorem asgTs_1  {l H}:asgTs ev ([]) ([]) l H=(some (l,H)):=rfl
theorem asgTs_2  {t ts v vs l H}:asgTs ev (t::ts) (v::vs) l H=(bndS (asgT ev t v l H) fun l H=>asgTs ev ts vs l H):=rfl
end
noncomputable abbrev SR:=Option (Fl×Lo×Hp)
noncomputable def whlN (t:Lo→Hp→Option (V×Hp)) (b:Lo→Hp→SR):Nat→Lo→Hp→SR
  | 0,_,_=>none
  | n+1,l,H=>bnd (t l H) fun v H=>(match v with
    | .bool false=>some (.next,l,H)
    | .bool true=>(match b l H with
      | some (.next,l,H)=>whlN t b n l H
      | some (.cont,l,H)=>whlN t b n l H
      | some (.brk,l,H)=>some (.next,l,H)
      | some (.ret v,l,H)=>some (.ret v,l,H)
      | none=>none)
    | _=>none)
theorem whlN_1  {t b zu1 zu2}:whlN t b 0 zu1 zu2=(none):=rfl
theorem whlN_2  {t b n l H}:whlN t b (n+1) l H=(bnd (t l H) fun v H=>(match v with
    | .bool false=>some (.next,l,H)
    | .bool true=>(match b l H with
      | some (.next,l,H)=>whlN t b n l H
      | some (.cont,l,H)=>whlN t b n l H
      | some (.brk,l,H)=>some (.next,l,H)
      | some (.ret v,l,H)=>some (.ret v,l,H)
      | none=>none)
    | _=>none)):=rfl
noncomputable def forN (t:CT) (b:Lo→Hp→SR):Nat→It→Lo→Hp→SR
  | 0,_,_,_=>none
  | n+1,it,l,H=>match nextI H it with
    | none=>none
    | some none=>some (.next,l,H)
    | some (some (v,it'))=>(match setCT t v l with
      | none=>none
      | some l=>(match b l H with
        | some (.next,l,H)=>forN t b n it' l H
        | some (.cont,l,H)=>forN t b n it' l H
        | some (.brk,l,H)=>some (.next,l,H)
        | some (.ret v,l,H)=>some (.ret v,l,H)
        | none=>none))
theorem forN_1  {t b zu1 zu2 zu3}:forN t b 0 zu1 zu2 zu3=(none):=rfl
theorem forN_2  {t b n it l H}:forN t b (n+1) it l H=(match nextI H it with
    | none=>none
    | some none=>some (.next,l,H)
    | some (some (v,it'))=>(match setCT t v l with
      | none=>none
      | some l=>(match b l H with
        | some (.next,l,H)=>forN t b n it' l H
        | some (.cont,l,H)=>forN t b n it' l H
        | some (.brk,l,H)=>some (.next,l,H)
        | some (.ret v,l,H)=>some (.ret v,l,H)
        | none=>none))):=rfl
section
variable (P:Pg) (call:CallT)
mutual
noncomputable def exS:MS→Lo→Hp→SR
  | .bad,_,_=>none
  | .expr e,l,H=>bnd (evE P call e l H) fun _ H=>some (.next,l,H)
  | .ret e,l,H=>bnd (evE P call e l H) fun v H=>some (.ret v,l,H)
  | .asg t e,l,H=>bnd (evE P call e l H) fun v H=>bndS (asgT (evE P call) t v l H) fun l H=>some (.next,l,H)
  | .auga o a op e,l,H=>bnd (evE P call o l H) fun o H=>(match getA H o a with
    | some x=>bnd (evE P call e l H) fun b H=>(match augV op x b with | some r=>(match setA H o a r with | some H=>some (.next,l,H) | none=>none) | none=>none)
    | none=>none)
  | .ife t b o,l,H=>bnd (evE P call t l H) fun v H=>(match v with | .bool true=>exB b l H | .bool false=>exB o l H | _=>none)
  | .whl t b,l,H=>whlN (evE P call t) (fun l H=>exB b l H) 1048576 l H
  | .for t e b,l,H=>bnd (evE P call e l H) fun v H=>(match iterV H v with
    | some it=>forN t (fun l H=>exB b l H) 1048576 it l H
    | none=>none)
  | .brk,l,H=>some (.brk,l,H)
  | .cont,l,H=>some (.cont,l,H)
noncomputable def exB:List MS→Lo→Hp→SR
  | [],l,H=>some (.next,l,H)
  | s::r,l,H=>match exS s l H with
    | some (.next,l,H)=>exB r l H
    | x=>x
end
theorem exB_1  {l H}:exB P call ([]) l H=(some (.next,l,H)):=rfl
end
noncomputable def callF (P:Pg):Nat→CallT
  | 0,_,_,_=>none
  | d+1,f,vs,H=>match P.fns[f]? with
    | some fi=>if vs.length=fi.np then(match exB P (callF P d) fi.body (vs.map some++List.replicate (fi.ns - fi.np) none) H with
      | some (.ret v,_,H)=>some (v,H)
      | some (.next,_,H)=>some (.none,H)
      | _=>none) else none
    | none=>none
theorem callF_1  {P zu1 zu2 zu3}:callF P 0 zu1 zu2 zu3=(none):=rfl
theorem callF_2  {P d f vs H}:callF P (d+1) f vs H=(match P.fns[f]? with
    | some fi=>if vs.length=fi.np then(match exB P (callF P d) fi.body (vs.map some++List.replicate (fi.ns - fi.np) none) H with
      | some (.ret v,_,H)=>some (v,H)
      | some (.next,_,H)=>some (.none,H)
      | _=>none) else none
    | none=>none):=rfl
end Mine
namespace Mine
inductive LE0 where
  | n (k:Nat) | v (i:Nat) | a (x y:LE0) | m (k:Nat) (x:LE0) | r (x:LE0) (k:Nat)
inductive LF0 where
  | z | c (k:Nat) (x y:LE0) (r:LF0)
noncomputable def gtN:List Nat→Nat→Nat
  | [],_=>0
  | x::_,0=>x
  | _::r,i+1=>gtN r i
noncomputable def LE0.ev (p:List Nat):LE0→Nat
  | .n k=>k
  | .v i=>gtN p i
  | .a x y=>x.ev p+y.ev p
  | .m k x=>k * x.ev p
  | .r x k=>x.ev p * k
noncomputable def LF0.den (p:List Nat):LF0→Prop
  | .z=>False
  | .c _ x y r=>x.ev p≤y.ev p→r.den p
noncomputable def addc:List Nat→Nat→Nat→List Nat
  | [],0,k=>[k]
  | [],i+1,k=>0::addc [] i k
  | c::r,0,k=>(c+k)::r
  | c::r,i+1,k=>c::addc r i k
noncomputable def acE (s:Nat):LE0→List Nat→Nat→(List Nat→Nat→Bool)→Bool
  | .n k,p,c,f=>f p (c+s * k)
  | .v i,p,c,f=>f (addc p i s) c
  | .a x y,p,c,f=>acE s x p c fun p c=>acE s y p c f
  | .m k x,p,c,f=>acE (s * k) x p c f
  | .r x k,p,c,f=>acE (s * k) x p c f
noncomputable def le2:List Nat→List Nat→Bool
  | [],_=>true
  | c::r,[]=>Nat.beq c 0 && le2 r []
  | c::r,d::s=>Nat.ble c d && le2 r s
noncomputable def chkF:LF0→List Nat→Nat→List Nat→Nat→Bool
  | .z,l,a,r,b=>le2 r l && Nat.ble (b+1) a
  | .c k x y f,l,a,r,b=>acE k x l a fun l a=>acE k y r b fun r b=>chkF f l a r b
noncomputable def pvN:List Nat→List Nat→Nat
  | [],_=>0
  | _::_,[]=>0
  | c::r,x::p=>c * x+pvN r p
theorem addc_pv:∀(q:List Nat) (i k:Nat) (p:List Nat),pvN (addc q i k) p=pvN q p+k * gtN p i
  | [],0,k,[]=>rfl
  | [],0,k,x::p=>by show k * x+0=0+k * x; omega
  | [],i+1,k,[]=>rfl
  | [],i+1,k,x::p=>by
    show 0 * x+pvN (addc [] i k) p=0+k * gtN p i
    rw [addc_pv [] i k p,Nat.zero_mul,Nat.zero_add]; rfl
  | c::r,0,k,[]=>rfl
  | c::r,0,k,x::p=>by
    show(c+k) * x+pvN r p=c * x+pvN r p+k * x
    rw [Nat.add_mul]; omega
  | c::r,i+1,k,[]=>rfl
  | c::r,i+1,k,x::p=>by
    show c * x+pvN (addc r i k) p=c * x+pvN r p+k * gtN p i
    rw [addc_pv r i k p,Nat.add_assoc]
theorem acE_ok {p:List Nat}:∀(e:LE0) (s:Nat) (q:List Nat) (c:Nat) (f:List Nat→Nat→Bool),acE s e q c f=true→∃ q' c',f q' c'=true∧pvN q' p+c'=pvN q p+c+s * e.ev p
  | .n k,s,q,c,f,h=>⟨q,c+s * k,h,(Nat.add_assoc ..).symm⟩
  | .v i,s,q,c,f,h=>⟨addc q i s,c,h,by rw [addc_pv]; show _=_+s * gtN p i; omega⟩
  | .a x y,s,q,c,f,h=>by
    obtain⟨q1,c1,h1,e1⟩:=acE_ok (p:=p) x s q c _ h
    obtain⟨q2,c2,h2,e2⟩:=acE_ok (p:=p) y s q1 c1 _ h1
    refine⟨q2,c2,h2,?_⟩
    show _=_+s * (x.ev p+y.ev p)
    rw [Nat.mul_add]; omega
  | .m k x,s,q,c,f,h=>by
    obtain⟨q1,c1,h1,e1⟩:=acE_ok (p:=p) x (s * k) q c _ h
    refine⟨q1,c1,h1,e1.trans ?_⟩
    show _=_+s * (k * x.ev p)
    rw [Nat.mul_assoc]
  | .r x k,s,q,c,f,h=>by
    obtain⟨q1,c1,h1,e1⟩:=acE_ok (p:=p) x (s * k) q c _ h
    refine⟨q1,c1,h1,e1.trans ?_⟩
    show _=_+s * (x.ev p * k)
    rw [Nat.mul_comm (x.ev p) k,Nat.mul_assoc]
theorem le2_pv:∀(r l:List Nat),le2 r l=true→∀ p,pvN r p≤pvN l p
  | [],l,_,p=>Nat.zero_le _
  | c::r,l,_,[]=>Nat.zero_le _
  | c::r,[],h,x::p=>by
    obtain⟨h1,h2⟩:=Bool.and_eq_true_iff.mp h
    have:=le2_pv r [] h2 p
    rw [Nat.eq_of_beq_eq_true h1]
    show 0 * x+pvN r p≤0
    rw [Nat.zero_mul,Nat.zero_add]; exact this
  | c::r,d::l,h,x::p=>by
    obtain⟨h1,h2⟩:=Bool.and_eq_true_iff.mp h
    exact Nat.add_le_add (Nat.mul_le_mul_right x (Nat.le_of_ble_eq_true h1)) (le2_pv r l h2 p)
theorem chk_ok {p:List Nat}:∀(f:LF0) (l:List Nat) (a:Nat) (r:List Nat) (b:Nat),chkF f l a r b=true→pvN l p+a≤pvN r p+b→f.den p
  | .z,l,a,r,b,h,e=>by
    obtain⟨h1,h2⟩:=Bool.and_eq_true_iff.mp h
    have h3:=le2_pv r l h1 p
    have h4:=Nat.le_of_ble_eq_true h2
    show False
    omega
  | .c k x y f,l,a,r,b,h,e=>fun hx=>by
    obtain⟨l',a',h1,e1⟩:=acE_ok (p:=p) x k l a _ h
    obtain⟨r',b',h2,e2⟩:=acE_ok (p:=p) y k r b _ h1
    have:=Nat.mul_le_mul_left k hx
    exact chk_ok f l' a' r' b' h2 (by omega)
theorem lin (p:List Nat) (f:LF0) (h:chkF f [] 0 [] 0=true):f.den p:=chk_ok f [] 0 [] 0 h (Nat.le_refl _)
noncomputable def eqE (x y:LE0):Bool:=chkF (.c 1 (.a x (.n 1)) y .z) [] 0 [] 0 && chkF (.c 1 (.a y (.n 1)) x .z) [] 0 [] 0
theorem lnq (p:List Nat) (x y:LE0) (h:eqE x y=true):x.ev p=y.ev p :=
  Nat.le_antisymm (Nat.not_lt.mp (lin p _ (Bool.and_eq_true_iff.mp h).2)) (Nat.not_lt.mp (lin p _ (Bool.and_eq_true_iff.mp h).1))
end Mine
namespace Mine
noncomputable def NMS:List Str:=(["orders","pc","at","named","marks","calls","subject","host","history","values","limit","refused","width","steps","log","kind","owner","key","node","tree","number","told"]:List String).map Str.ofString
noncomputable def MMS:List Str:=(["__init__","emit","put","begun","choice","repeat","bound","copied","run","way_back","done","met_once","ended","other","met_often","asked","value_of","assign","step"]:List String).map Str.ofString
noncomputable def CLSN:List Str:=(["PatternCode","NameRef","Way","Match","PlainHost","Failure","Pattern","Delayed","SnobolError"]:List String).map Str.ofString
noncomputable def nmOf (a:Nat):Str:=NMS.getD a Str.empty
noncomputable def mmOf (a:Nat):Str:=MMS.getD (a - 100) Str.empty
noncomputable abbrev Sl:=List (Option (Str×Bool))
noncomputable abbrev Nms:=List (Str×NameKind)
noncomputable def kOf (c:Bool):NameKind:=if c then .cell else .local
noncomputable def isBad:ME→Bool
  | .bad=>true
  | _=>false
set_option genCtorIdx false in
inductive GV where
  | fn (k:Nat) | val (v:V) | cls (c:Nat) | pr (p:Pr) | isi | typ (k:IK)
noncomputable def kindIs (k l:NameKind):Bool:=match k,l with
  | .local,.local=>true
  | .cell,.cell=>true
  | .free,.free=>true
  | .globalImplicit,.globalImplicit=>true
  | _,_=>false
noncomputable def nkOf (x:Str):Nms→Option NameKind
  | []=>none
  | (y,k)::r=>if x == y then some k else nkOf x r
theorem nkOf_2  {x y k r}:nkOf x ((y,k)::r)=(if x == y then some k else nkOf x r):=rfl
noncomputable def isLoc (nm:Nms) (sl:Sl) (i:Nat) (x:Str):Bool:=match sl[i]? with
  | some (some (y,c))=>x == y && (match nkOf x nm with | some k=>kindIs k (kOf c) | none=>false)
  | _=>false
noncomputable def isGlob (nm:Nms) (x:Str):Bool:=match nkOf x nm with | some k=>kindIs k .globalImplicit | none=>false
mutual
noncomputable def sameV:V→V→Bool
  | .none,.none=>true
  | .bool a,.bool b=>a == b
  | .int a,.int b=>a == b
  | .str a,.str b=>a == b
  | .fn a,.fn b=>a == b
  | .tup a,.tup b=>sameVs a b
  | _,_=>false
noncomputable def sameVs:List V→List V→Bool
  | [],[]=>true
  | a::r,b::t=>sameV a b && sameVs r t
  | _,_=>false
end
noncomputable def litC (v:V) (c:Const):Bool:=match v with
  | .none=>(match c with | .none=>true | _=>false)
  | .bool a=>(match c with | .bool b=>a == b | _=>false)
  | .int a=>(match c with | .int b=>a == b | _=>false)
  | .str a=>(match c with | .str b=>a == b.cps.toList && decide (a.length≤1000) | _=>false)
  | _=>false
noncomputable def opIs (o:BOp) (p:Operator):Bool:=match o,p with
  | .add,.Add=>true
  | .sub,.Sub=>true
  | .mul,.Mult=>true
  | .fdiv,.FloorDiv=>true
  | .mod,.Mod=>true
  | _,_=>false
noncomputable def copIs (o:COp) (p:CmpOp):Bool:=match o,p with
  | .eq,.Eq=>true
  | .ne,.NotEq=>true
  | .lt,.Lt=>true
  | .le,.LtE=>true
  | .gt,.Gt=>true
  | .ge,.GtE=>true
  | .is,.Is=>true
  | .isnot,.IsNot=>true
  | .isin,.In=>true
  | .notin,.NotIn=>true
  | _,_=>false
noncomputable def bmName:BM→Str
  | .append=>Str.ofString "append"
  | .pop=>Str.ofString "pop"
  | .extend=>Str.ofString "extend"
  | .reverse=>Str.ofString "reverse"
  | .join=>Str.ofString "join"
  | .replace=>Str.ofString "replace"
  | .startswith=>Str.ofString "startswith"
  | .lstrip=>Str.ofString "lstrip"
  | .split=>Str.ofString "split"
  | .get=>Str.ofString "get"
noncomputable def prName:Pr→Str
  | .len=>Str.ofString "len"
  | .abs=>Str.ofString "abs"
  | .int=>Str.ofString "int"
  | .chr=>Str.ofString "chr"
  | .ord=>Str.ofString "ord"
  | .list=>Str.ofString "list"
  | .range=>Str.ofString "range"
  | .min=>Str.ofString "min"
  | .str=>Str.ofString "str"
noncomputable def ikName:IK→Str
  | .int=>Str.ofString "int"
  | .str=>Str.ofString "str"
  | .tuple=>Str.ofString "tuple"
  | .cls k=>CLSN.getD k Str.empty
noncomputable def noneLit:ME→Bool
  | .lit .none=>true
  | _=>false
noncomputable def e0:Expr:=.Constant .none 0 default
structure XV where
  w:Expr
  t:Nat
  p:Pos
  a:Expr
  b:Expr
  d:Expr
  n:Nat
  s:Str
  l:List Expr
  bo:BoolOp
  op:Operator
  uo:UnaryOp
  ks:List (Option Expr)
  gs:List Comprehension
  sc:Scope
  co:List CmpOp
  kw:List Keyword
  c:Const
  o1:Option Expr
  o2:Option Expr
  o3:Option Expr
noncomputable def X0 (x:Expr) (t:Nat) (p:Pos):XV:=⟨x,t,p,e0,e0,e0,0,default,[],default,default,default,[],[],default,[],[],.none,none,none,none⟩
noncomputable def xv (x:Expr):XV:=match x with
  | .BoolOp a b c=>{ X0 x 0 c with bo:=a,l:=b }
  | .BinOp a b c d=>{ X0 x 1 d with a:=a,op:=b,b:=c }
  | .UnaryOp a b c=>{ X0 x 2 c with uo:=a,a:=b }
  | .IfExp a b c d=>{ X0 x 3 d with a:=a,b:=b,d:=c }
  | .Dict a b c=>{ X0 x 4 c with ks:=a,l:=b }
  | .ListComp a b c d=>{ X0 x 5 d with a:=a,gs:=b,sc:=c }
  | .Compare a b c d=>{ X0 x 6 d with a:=a,co:=b,l:=c }
  | .Call a b c d=>{ X0 x 7 d with a:=a,l:=b,kw:=c }
  | .Constant a b c=>{ X0 x 8 c with c:=a,n:=b }
  | .Attribute a b c=>{ X0 x 9 c with a:=a,s:=b }
  | .Subscript a b c=>{ X0 x 10 c with a:=a,b:=b }
  | .Name a b=>{ X0 x 11 b with s:=a }
  | .List a b=>{ X0 x 12 b with l:=a }
  | .Tuple a b c=>{ X0 x 13 c with l:=a,n:=b }
  | .Slice a b c d=>{ X0 x 14 d with o1:=a,o2:=b,o3:=c }
  | .Starred ..=>X0 x 20 default
  | .Set ..=>X0 x 21 default
  | _=>X0 x 99 default
noncomputable def XV.back (v:XV) (n:Nat):Expr :=
  ([.BoolOp v.bo v.l v.p,.BinOp v.a v.op v.b v.p,.UnaryOp v.uo v.a v.p,.IfExp v.a v.b v.d v.p,.Dict v.ks v.l v.p,.ListComp v.a v.gs v.sc v.p,.Compare v.a v.co v.l v.p,.Call v.a v.l v.kw v.p,.Constant v.c v.n v.p,
    .Attribute v.a v.s v.p,.Subscript v.a v.b v.p,.Name v.s v.p,.List v.l v.p,.Tuple v.l v.n v.p,.Slice v.o1 v.o2 v.o3 v.p]:List Expr).getD n v.w
theorem xv_ok (x:Expr):(xv x).back (xv x).t=x:=by cases x <;> rfl
theorem inv {x:Expr} {n:Nat} {P:Expr→Prop} (h:Nat.beq (xv x).t n=true) (k:P ((xv x).back n)):P x:=by
  have e:=xv_ok x
  rw [Nat.eq_of_beq_eq_true h] at e
  exact e▸k
noncomputable def onBoolOp (v:XV) (f:BoolOp→List Expr→Pos→Bool):Bool:=Nat.beq v.t 0 && f v.bo v.l v.p
noncomputable def onBinOp (v:XV) (f:Expr→Operator→Expr→Pos→Bool):Bool:=Nat.beq v.t 1 && f v.a v.op v.b v.p
noncomputable def onUnaryOp (v:XV) (f:UnaryOp→Expr→Pos→Bool):Bool:=Nat.beq v.t 2 && f v.uo v.a v.p
noncomputable def onIfExp (v:XV) (f:Expr→Expr→Expr→Pos→Bool):Bool:=Nat.beq v.t 3 && f v.a v.b v.d v.p
noncomputable def onDict (v:XV) (f:List (Option Expr)→List Expr→Pos→Bool):Bool:=Nat.beq v.t 4 && f v.ks v.l v.p
noncomputable def onListComp (v:XV) (f:Expr→List Comprehension→Scope→Pos→Bool):Bool:=Nat.beq v.t 5 && f v.a v.gs v.sc v.p
noncomputable def onCompare (v:XV) (f:Expr→List CmpOp→List Expr→Pos→Bool):Bool:=Nat.beq v.t 6 && f v.a v.co v.l v.p
noncomputable def onCall (v:XV) (f:Expr→List Expr→List Keyword→Pos→Bool):Bool:=Nat.beq v.t 7 && f v.a v.l v.kw v.p
noncomputable def onConstant (v:XV) (f:Const→Nat→Pos→Bool):Bool:=Nat.beq v.t 8 && f v.c v.n v.p
noncomputable def onAttribute (v:XV) (f:Expr→Str→Pos→Bool):Bool:=Nat.beq v.t 9 && f v.a v.s v.p
noncomputable def onSubscript (v:XV) (f:Expr→Expr→Pos→Bool):Bool:=Nat.beq v.t 10 && f v.a v.b v.p
noncomputable def onName (v:XV) (f:Str→Pos→Bool):Bool:=Nat.beq v.t 11 && f v.s v.p
noncomputable def onList (v:XV) (f:List Expr→Pos→Bool):Bool:=Nat.beq v.t 12 && f v.l v.p
noncomputable def onTuple (v:XV) (f:List Expr→Nat→Pos→Bool):Bool:=Nat.beq v.t 13 && f v.l v.n v.p
noncomputable def onSlice (v:XV) (f:Option Expr→Option Expr→Option Expr→Pos→Bool):Bool:=Nat.beq v.t 14 && f v.o1 v.o2 v.o3 v.p
structure SV where
  w:Stmt
  t:Nat
  p:Pos
  a:Expr
  b:Expr
  o:Option Expr
  ts:List Expr
  op:Operator
  y:List Stmt
  z:List Stmt
noncomputable def S0 (x:Stmt) (t:Nat) (p:Pos):SV:=⟨x,t,p,e0,e0,none,[],default,[],[]⟩
noncomputable def sv (x:Stmt):SV:=match x with
  | .Expr a b=>{ S0 x 0 b with a:=a }
  | .Return a b=>{ S0 x 1 b with o:=a }
  | .Assign a b c=>{ S0 x 2 c with ts:=a,a:=b }
  | .AugAssign a b c d=>{ S0 x 3 d with a:=a,op:=b,b:=c }
  | .If a b c d=>{ S0 x 4 d with a:=a,y:=b,z:=c }
  | .While a b c d=>{ S0 x 5 d with a:=a,y:=b,z:=c }
  | .For a b c d e=>{ S0 x 6 e with a:=a,b:=b,y:=c,z:=d }
  | .Break a=>S0 x 7 a
  | .Continue a=>S0 x 8 a
  | _=>S0 x 99 default
noncomputable def SV.back (v:SV) (n:Nat):Stmt :=
  ([.Expr v.a v.p,.Return v.o v.p,.Assign v.ts v.a v.p,.AugAssign v.a v.op v.b v.p,.If v.a v.y v.z v.p,.While v.a v.y v.z v.p,.For v.a v.b v.y v.z v.p,.Break v.p,.Continue v.p]:List Stmt).getD n v.w
theorem sv_ok (x:Stmt):(sv x).back (sv x).t=x:=by cases x <;> rfl
theorem invS {x:Stmt} {n:Nat} {P:Stmt→Prop} (h:Nat.beq (sv x).t n=true) (k:P ((sv x).back n)):P x:=by
  have e:=sv_ok x
  rw [Nat.eq_of_beq_eq_true h] at e
  exact e▸k
noncomputable def onSExpr (v:SV) (f:Expr→Pos→Bool):Bool:=Nat.beq v.t 0 && f v.a v.p
noncomputable def onSReturn (v:SV) (f:Option Expr→Pos→Bool):Bool:=Nat.beq v.t 1 && f v.o v.p
noncomputable def onSAssign (v:SV) (f:List Expr→Expr→Pos→Bool):Bool:=Nat.beq v.t 2 && f v.ts v.a v.p
noncomputable def onSAugAssign (v:SV) (f:Expr→Operator→Expr→Pos→Bool):Bool:=Nat.beq v.t 3 && f v.a v.op v.b v.p
noncomputable def onSIf (v:SV) (f:Expr→List Stmt→List Stmt→Pos→Bool):Bool:=Nat.beq v.t 4 && f v.a v.y v.z v.p
noncomputable def onSWhile (v:SV) (f:Expr→List Stmt→List Stmt→Pos→Bool):Bool:=Nat.beq v.t 5 && f v.a v.y v.z v.p
noncomputable def onSFor (v:SV) (f:Expr→Expr→List Stmt→List Stmt→Pos→Bool):Bool:=Nat.beq v.t 6 && f v.a v.b v.y v.z v.p
noncomputable def onSBreak (v:SV) (f:Pos→Bool):Bool:=Nat.beq v.t 7 && f v.p
noncomputable def onSContinue (v:SV) (f:Pos→Bool):Bool:=Nat.beq v.t 8 && f v.p
noncomputable def notStar (e:Expr):Bool:=!(Nat.beq (xv e).t 20)
noncomputable def notSet (e:Expr):Bool:=!(Nat.beq (xv e).t 21)
noncomputable def notSuper:Expr→Bool
  | .Call (.Name _ _) [] [] _=>false
  | _=>true
noncomputable def notComp:Expr→Bool
  | .ListComp ..=>false
  | .SetComp ..=>false
  | .DictComp ..=>false
  | _=>true
noncomputable def isStarred:Expr→Bool
  | .Starred ..=>true
  | _=>false
noncomputable def locName (nm:Nms) (line:Nat):Expr→Option Str
  | .Name id pos=>if nm.lookup id == some .local && pos.line == line then some id else none
  | _=>none
noncomputable def casc (c1 c2 c3 c4 c5:Bool) (g:List Str):Option (Option (List Str)):=bif c1 then some none else bif c2 then some none else bif c3 then some none else bif c4 then some none else bif c5 then none else some (some g)
noncomputable def tupQ (nm:Nms) (ts vs:List Expr):Option (Option (List Str)) :=
  let g:=ts.filterMap (locName nm ((ts.head?.map (·.pos.line)).getD 0))
  casc (!(ts.length == 2 || ts.length == 3) || vs.length != ts.length) (vs.any isStarred) (g.length != ts.length || g.eraseDups.length != g.length) (vs.all (foldedForSure 8)) (vs.all (constantsAlone 8)) g
noncomputable def swpQ (nm:Nms) (y x:Expr):Option (Option (List Str)):=match y with
  | .Tuple ts _ _=>(match x with | .Tuple vs _ _=>tupQ nm ts vs | _=>some none)
  | .List ..=>none
  | _=>some none
noncomputable def isSlice:Expr→Bool
  | .Slice ..=>true
  | _=>false
noncomputable def ownNm (nm out:Nms):Nms:=nm.map fun(n,k)=>if kindIs k .free && (match nkOf n out with | some k'=>kindIs k' .cell | none=>false) then(n,.cell) else(n,k)
noncomputable def hideSl (sl:Sl) (nm:Nms):Sl:=sl.map fun s=>match s with
  | some (x,true)=>if(match nkOf x nm with | some k=>kindIs k .free | none=>false) then some (x,true) else none
  | _=>none
noncomputable def innerSl:Nms→Sl
  | []=>[]
  | (x,k)::r=>if kindIs k .local && !(x == (Str.ofString ".0")) then some (x,false)::innerSl r else innerSl r
theorem innerSl_1 :innerSl ([])=([]):=rfl
theorem innerSl_2  {x k r}:innerSl ((x,k)::r)=(if kindIs k .local && !(x == (Str.ofString ".0")) then some (x,false)::innerSl r else innerSl r):=rfl
noncomputable def strIn (x:Str):List Str→Bool
  | []=>false
  | y::r=>x == y || strIn x r
theorem strIn_1  {x}:strIn x ([])=(false):=rfl
theorem strIn_2  {x y r}:strIn x (y::r)=(x == y || strIn x r):=rfl
noncomputable def ndStr:List Str→Bool
  | []=>true
  | x::r=>!strIn x r && ndStr r
theorem ndStr_1 :ndStr ([])=(true):=rfl
theorem ndStr_2  {x r}:ndStr (x::r)=(!strIn x r && ndStr r):=rfl
noncomputable def ctGo (nm:Nms) (sl:Sl):List Nat→List Expr→Bool
  | [],es=>(match es with | []=>true | _=>false)
  | i::is,es=>(match es with | e::r=>(onName (xv e) fun x _=>isLoc nm sl i x && ctGo nm sl is r) | []=>false)
noncomputable def ctIs (nm:Nms) (sl:Sl) (t:CT) (e:Expr):Bool:=match t with
  | .one i=>(onName (xv e) fun x _=>isLoc nm sl i x)
  | .many is=>(onTuple (xv e) fun es _ _=>ctGo nm sl is es)
noncomputable def flagF (sl:Sl) (i:Nat):Bool:=match sl[i]? with | some (some (_,false))=>true | _=>false
noncomputable def ctIn (sl:Sl):CT→Bool
  | .one i=>flagF sl i
  | .many is=>is.all (flagF sl)
noncomputable def noDbg:Nms→Bool
  | []=>true
  | (x,_)::r=>!(x == (Str.ofString "__debug__")) && noDbg r
theorem noDbg_1 :noDbg ([])=(true):=rfl
theorem noDbg_2  {x zu1 r}:noDbg ((x,zu1)::r)=(!(x == (Str.ofString "__debug__")) && noDbg r):=rfl
noncomputable def kindIs0 (sc:Scope):Bool:=noDbg sc.names &&  (match sc.kind with | .function=>true | _=>false) && !sc.isGenerator && !sc.isCoroutine
noncomputable def hasSl (sl:Sl) (x:Str):Bool:=sl.any fun z=>match z with | some (y,true)=>y == x | _=>false
noncomputable def frees:Nms→Nms→Sl→Bool
  | [],_,_=>true
  | (x,k)::r,nm,sl=>(match k with
    | .local=>true
    | .globalImplicit=>true
    | .free=>(match nkOf x nm with | some k'=>kindIs k' .cell | none=>false) && hasSl sl x
    | _=>false) && frees r nm sl
theorem frees_1  {zu1 zu2}:frees ([]) zu1 zu2=(true):=rfl
theorem frees_2  {x k r nm sl}:frees ((x,k)::r) nm sl=((match k with
    | .local=>true
    | .globalImplicit=>true
    | .free=>(match nkOf x nm with | some k'=>kindIs k' .cell | none=>false) && hasSl sl x
    | _=>false) && frees r nm sl):=rfl
section
variable (G:Str→Option GV)
noncomputable def isLocs (nm:Nms) (sl:Sl):List Nat→List Str→Bool
  | [],ns=>(match ns with | []=>true | _=>false)
  | i::is,ns=>(match ns with | n::ns=>isLoc nm sl i n && isLocs nm sl is ns | []=>false)
noncomputable def locOf (t:Tg):Option Nat:=match t with | .loc i=>some i | _=>none
noncomputable def swTs (nm:Nms) (sl:Sl) (ts:List Tg) (ns:List Str):Bool:=match ts with
  | []=>false
  | t::ts=>(match locOf t with
    | none=>false
    | some i=>(match ts with
      | []=>false
      | t::ts=>(match locOf t with
        | none=>false
        | some j=>(match ts with
          | []=>isLocs nm sl [i,j] ns
          | t::ts=>(match locOf t with
            | none=>false
            | some k=>(match ts with | []=>isLocs nm sl [i,j,k] ns | _=>false))))))
noncomputable def swOk (nm:Nms) (sl:Sl) (t:Tg) (r:Option (Option (List Str))):Bool:=match r with
  | some r=>(match r with
    | none=>true
    | some ns=>(match t with | .tup ts=>swTs nm sl ts ns | _=>false))
  | none=>false
noncomputable def isiP (g:GV):Bool:=match g with
  | .isi=>true
  | _=>false
noncomputable def ikP (k:IK) (g:GV):Bool:=match g with
  | .cls j=>(match k with | .cls i=>i == j | _=>false)
  | .pr _=>(match k with | .int=>true | .str=>true | _=>false)
  | .typ _=>(match k with | .tuple=>true | _=>false)
  | _=>false
noncomputable def globP (v:V) (g:GV):Bool:=match g with
  | .fn k=>(match v with | .fn j=>k == j | _=>false)
  | .val u=>sameV u v
  | _=>false
noncomputable def gIs (nm:Nms) (x:Str) (p:GV→Bool):Bool:=isGlob nm x && (match G x with | some g=>p g | none=>false)
noncomputable def on1L {α:Type} (l:List α) (f:α→Bool):Bool:=match l with | []=>false | a::r=>(match r with | []=>f a | _::_=>false)
noncomputable def on2L {α:Type} (l:List α) (f:α→α→Bool):Bool:=match l with | []=>false | a::r=>on1L r (f a)
noncomputable def on0L {α:Type} (l:List α) (b:Bool):Bool:=match l with | []=>b | _::_=>false
mutual
noncomputable def chE:ME→Nms→Sl→Expr→Bool
  | .bad,_,_,_=>true
  | .lit v,_,_,e=>(onConstant (xv e) fun c _ _=>litC v c)
  | .loc i,nm,sl,e=>(onName (xv e) fun x _=>isLoc nm sl i x)
  | .glob v,nm,_,e=>(onName (xv e) fun x _=>gIs G nm x (globP v))
  | .tup es,nm,sl,e=>(onTuple (xv e) fun xs _ _=>decide (es.length≤100) && chL es nm sl xs)
  | .lst es,nm,sl,e=>(onList (xv e) fun xs _=>decide (es.length≤100) && chL es nm sl xs)
  | .dict es,nm,sl,e=>(onDict (xv e) fun ks vs _=>decide (vs.length≤15) && chD es nm sl ks vs)
  | .attr o a,nm,sl,e=>(onAttribute (xv e) fun x n _=>n == nmOf a && decide (a<22) && notSuper x && chE o nm sl x)
  | .idx o i,nm,sl,e=>(onSubscript (xv e) fun x s _=>!isSlice s && chE o nm sl x && chE i nm sl s)
  | .slice o lo hi st,nm,sl,e=>(onSubscript (xv e) fun x y _=>(onSlice (xv y) fun l u s _=>chE o nm sl x && (match l with | some l=>chE lo nm sl l && !noneLit lo | none=>noneLit lo) &&
        (match u with | some u=>chE hi nm sl u && !noneLit hi | none=>noneLit hi) && (match s with | some s=>chE st nm sl s && !noneLit st | none=>noneLit st)))
  | .bin op a b,nm,sl,e=>(onBinOp (xv e) fun x o y _=>opIs op o && chE a nm sl x && chE b nm sl y)
  | .neg a,nm,sl,e=>(onUnaryOp (xv e) fun o x _=>(match o with | .USub=>chE a nm sl x | _=>false))
  | .not a,nm,sl,e=>(onUnaryOp (xv e) fun o x _=>(match o with | .Not=>chE a nm sl x | _=>false))
  | .cmp op a b,nm,sl,e=>(onCompare (xv e) fun x os ys _=>on1L os fun o=>on1L ys fun y=>copIs op o && notSet y && chE a nm sl x && chE b nm sl y)
  | .and es,nm,sl,e=>(onBoolOp (xv e) fun o xs _=>(match o with | .And=>decide (2≤xs.length) && chL es nm sl xs | _=>false))
  | .or es,nm,sl,e=>(onBoolOp (xv e) fun o xs _=>(match o with | .Or=>decide (2≤xs.length) && chL es nm sl xs | _=>false))
  | .ife t a b,nm,sl,e=>(onIfExp (xv e) fun x y z _=>chE t nm sl x && chE a nm sl y && chE b nm sl z)
  | .call f es,nm,sl,e=>(onCall (xv e) fun f0 xs ks _=>(onName (xv f0) fun x p=>on0L ks (chE f nm sl (.Name x p) && chL es nm sl xs)))
  | .new c es,nm,sl,e=>(onCall (xv e) fun f0 xs ks _=>(onName (xv f0) fun x _=>on0L ks (decide (c<5) && gIs G nm x (fun g=>match g with | .cls k=>k == c | _=>false) && chL es nm sl xs)))
  | .meth o m es,nm,sl,e=>(onCall (xv e) fun f0 xs ks p=>(onAttribute (xv f0) fun x n ap=>on0L ks (n == mmOf m && decide (100≤m∧m<119) && decide (xs.length<20) && (ap.endLine == p.line) && notSuper x && chE o nm sl x && chL es nm sl xs)))
  | .bmeth o m es,nm,sl,e=>(onCall (xv e) fun f0 xs ks p=>(onAttribute (xv f0) fun x n ap=>on0L ks (n == bmName m && decide (xs.length<20) && (ap.endLine == p.line) && notSuper x && chE o nm sl x && chL es nm sl xs)))
  | .prim p es,nm,sl,e=>(onCall (xv e) fun f0 xs ks _=>(onName (xv f0) fun x _=>on0L ks (x == prName p && gIs G nm x (fun g=>match g with | .pr _=>true | _=>false) && chL es nm sl xs)))
  | .isin o k,nm,sl,e=>(onCall (xv e) fun f0 xs ks _=>(onName (xv f0) fun x _=>on0L ks (on2L xs fun y w=>(onName (xv w) fun z _=>gIs G nm x isiP && z == ikName k && gIs G nm z (ikP k) && notStar y && chE o nm sl y))))
  | .comp elt src t k cs,nm,sl,e=>(onListComp (xv e) fun x gs sc _=>(match gs with | [⟨tg,it,ifs,0⟩]=>notSet it && chE src nm sl it && (let nm':=ownNm sc.names nm; let sl':=hideSl sl sc.names++innerSl sc.names
        decide ((innerSl sc.names).length=k) && kindIs0 sc && ctIn sl' t && ctIs nm' sl' t tg && chL cs nm' sl' ifs && chE elt nm' sl' x && ndStr (sc.names.map (·.1)) && frees sc.names nm sl) | _=>false))
noncomputable def chL:List ME→Nms→Sl→List Expr→Bool
  | [],_,_,xs=>(match xs with | []=>true | _=>false)
  | e::r,nm,sl,xs=>(match xs with | x::ys=>notStar x && chE e nm sl x && chL r nm sl ys | []=>false)
noncomputable def chD:List ME→Nms→Sl→List (Option Expr)→List Expr→Bool
  | [],_,_,ks,vs=>(match ks with | []=>(match vs with | []=>true | _=>false) | _=>false)
  | [_],_,_,_,_=>false
  | k::v::r,nm,sl,ks,vs=>(match ks with | x::ks=>(match x with | some x=>(match vs with | y::vs=>chE k nm sl x && chE v nm sl y && chD r nm sl ks vs | _=>false) | _=>false) | _=>false)
end
theorem chL_1  {zu1 zu2 xs}:chL G ([]) zu1 zu2 xs=((match xs with | []=>true | _=>false)):=rfl
theorem chL_2  {e r nm sl xs}:chL G (e::r) nm sl xs=((match xs with | x::ys=>notStar x && chE G e nm sl x && chL G r nm sl ys | []=>false)):=rfl
mutual
noncomputable def chT:Tg→Nms→Sl→Expr→Bool
  | .loc i,nm,sl,e=>(onName (xv e) fun x _=>isLoc nm sl i x)
  | .attr o a,nm,sl,e=>(onAttribute (xv e) fun x n _=>n == nmOf a && decide (a<22) && chE G o nm sl x)
  | .idx o i,nm,sl,e=>(onSubscript (xv e) fun x s _=>!isSlice s && chE G o nm sl x && chE G i nm sl s)
  | .tup ts,nm,sl,e=>(onTuple (xv e) fun xs _ _=>chTs ts nm sl xs)
noncomputable def chTs:List Tg→Nms→Sl→List Expr→Bool
  | [],_,_,xs=>(match xs with | []=>true | _=>false)
  | t::r,nm,sl,xs=>(match xs with | x::ys=>chT t nm sl x && chTs r nm sl ys | []=>false)
end
noncomputable def isLocT (t:Tg):Bool:=match t with | .loc _=>true | _=>false
noncomputable def cmpS (nm:Nms) (y x:Expr) (t:Tg):Bool :=
  onName (xv y) fun n py=>onListComp (xv x) fun _ _ sc px=>isLocT t && (nm.lookup n == some .local && py.line == px.line && !(sc.names.any fun(z,k)=>z == n && (k == .local || k == .cell)))
noncomputable def asgS (nm:Nms) (sl:Sl) (t:Tg) (y x:Expr):Bool:=bif notComp x then swOk nm sl t (swpQ nm y x) else cmpS nm y x t
mutual
noncomputable def chS:MS→Nms→Sl→Stmt→Bool
  | .bad,_,_,_=>true
  | .expr e,nm,sl,s=>(onSExpr (sv s) fun x _=>notComp x && chE G e nm sl x)
  | .ret e,nm,sl,s=>(onSReturn (sv s) fun x _=>(match x with | some x=>chE G e nm sl x | _=>false))
  | .asg t e,nm,sl,s=>(onSAssign (sv s) fun ts x _=>(match ts with | y::r=>(match r with | []=>chT G t nm sl y && chE G e nm sl x && asgS nm sl t y x | _=>false) | []=>false))
  | .auga o a op e,nm,sl,s=>(onSAugAssign (sv s) fun z p y _=>(onAttribute (xv z) fun x n _=>opIs op p && n == nmOf a && decide (a<22) && notSuper x && chE G o nm sl x && chE G e nm sl y))
  | .ife t b o,nm,sl,s=>(onSIf (sv s) fun x y z _=>chE G t nm sl x && chB b nm sl y && chB o nm sl z)
  | .whl t b,nm,sl,s=>(onSWhile (sv s) fun x y o _=>on0L o (chE G t nm sl x && chB b nm sl y))
  | .for t e b,nm,sl,s=>(onSFor (sv s) fun y x z o _=>on0L o (ctIs nm sl t y && notSet x && chE G e nm sl x && chB b nm sl z))
  | .brk,_,_,s=>(onSBreak (sv s) fun _=>true)
  | .cont,_,_,s=>(onSContinue (sv s) fun _=>true)
noncomputable def chB:List MS→Nms→Sl→List Stmt→Bool
  | [],_,_,xs=>(match xs with | []=>true | _=>false)
  | s::r,nm,sl,xs=>(match xs with | x::ys=>chS s nm sl x && chB r nm sl ys | []=>false)
end
end
noncomputable def slotsOf:Nms→Sl
  | []=>[]
  | (x,k)::r=>match k with
    | .local=>some (x,false)::slotsOf r
    | .cell=>some (x,true)::slotsOf r
    | _=>slotsOf r
theorem slotsOf_1 :slotsOf ([])=([]):=rfl
theorem slotsOf_2  {x k r}:slotsOf ((x,k)::r)=(match k with
    | .local=>some (x,false)::slotsOf r
    | .cell=>some (x,true)::slotsOf r
    | _=>slotsOf r):=rfl
noncomputable def argsAre:List Arg→Sl→Bool
  | [],_=>true
  | a::r,some (x,_)::t=>a.arg == x && argsAre r t
  | _,_=>false
theorem argsAre_1  {zu1}:argsAre ([]) zu1=(true):=rfl
theorem argsAre_2  {a r x zu1 t}:argsAre (a::r) (some (x,zu1)::t)=(a.arg == x && argsAre r t):=rfl
noncomputable def badBody:List MS→Bool
  | [.bad]=>true
  | _=>false
noncomputable def chFd (G:Str→Option GV) (fi:FI) (fd:FuncData):Bool :=
  fd.params.posonlyargs.isEmpty && fd.params.vararg.isNone && fd.params.kwonlyargs.isEmpty && fd.params.kwarg.isNone && (match fd.defaults with | .none=>true | _=>false) &&
  fd.closure.isEmpty && fd.globals == mainGlobals && fd.builtins == builtinsNs && kindIs0 fd.scope && decide (fd.params.args.length=fi.np) && decide ((slotsOf fd.scope.names).length=fi.ns) &&
  argsAre fd.params.args (slotsOf fd.scope.names) && ndStr (fd.scope.names.map (·.1)) &&
  (match fd.body with | .stmts b=>chB G fi.body fd.scope.names (slotsOf fd.scope.names) b | _=>false)
noncomputable def chK (G:Str→Option GV) (K:Frag) (fi:FI) (a:Addr):Bool:=badBody fi.body || (match K.lookup a with
  | some ⟨_,_,.func fd,_⟩=>chFd G fi fd && codeIn K fd.code fd.qualname
  | _=>false)
end Mine
namespace Mine
theorem and2 {a b:Bool} (h:(a && b)=true):a=true∧b=true:=by
  cases a with
  | true=>exact⟨rfl,h⟩
  | false=>cases h
theorem and4_k {a b c d:Bool} (h:(a && b && c && d)=true) {zg:Prop} (zk:(a=true)→(b=true)→(c=true)→(d=true)→zg):zg:=by
  exact zk ((and2 (and2 (and2 h).1).1).1) ((and2 (and2 (and2 h).1).1).2) ((and2 (and2 h).1).2) ((and2 h).2)
section
variable {G:Str→Option GV} {nm:Nms} {sl:Sl} {x:Expr} {zP:Expr→Prop}
@[elab_as_elim] theorem is_BoolOp_k {f:BoolOp→List Expr→Pos→Bool} (c:onBoolOp (xv x) f=true) (zk:∀ a b d,f a b d=true→zP (.BoolOp a b d)):zP x:=inv (n:=0) (P:=zP) (and2 c).1 (zk _ _ _ (and2 c).2)
@[elab_as_elim] theorem is_BinOp_k {f:Expr→Operator→Expr→Pos→Bool} (c:onBinOp (xv x) f=true) (zk:∀ a b d g,f a b d g=true→zP (.BinOp a b d g)):zP x:=inv (n:=1) (P:=zP) (and2 c).1 (zk _ _ _ _ (and2 c).2)
@[elab_as_elim] theorem is_UnaryOp_k {f:UnaryOp→Expr→Pos→Bool} (c:onUnaryOp (xv x) f=true) (zk:∀ a b d,f a b d=true→zP (.UnaryOp a b d)):zP x:=inv (n:=2) (P:=zP) (and2 c).1 (zk _ _ _ (and2 c).2)
@[elab_as_elim] theorem is_IfExp_k {f:Expr→Expr→Expr→Pos→Bool} (c:onIfExp (xv x) f=true) (zk:∀ a b d g,f a b d g=true→zP (.IfExp a b d g)):zP x:=inv (n:=3) (P:=zP) (and2 c).1 (zk _ _ _ _ (and2 c).2)
@[elab_as_elim] theorem is_Dict_k {f:List (Option Expr)→List Expr→Pos→Bool} (c:onDict (xv x) f=true) (zk:∀ a b d,f a b d=true→zP (.Dict a b d)):zP x:=inv (n:=4) (P:=zP) (and2 c).1 (zk _ _ _ (and2 c).2)
@[elab_as_elim] theorem is_ListComp_k {f:Expr→List Comprehension→Scope→Pos→Bool} (c:onListComp (xv x) f=true) (zk:∀ a b d g,f a b d g=true→zP (.ListComp a b d g)):zP x:=inv (n:=5) (P:=zP) (and2 c).1 (zk _ _ _ _ (and2 c).2)
@[elab_as_elim] theorem is_Compare_k {f:Expr→List CmpOp→List Expr→Pos→Bool} (c:onCompare (xv x) f=true) (zk:∀ a b d g,f a b d g=true→zP (.Compare a b d g)):zP x:=inv (n:=6) (P:=zP) (and2 c).1 (zk _ _ _ _ (and2 c).2)
@[elab_as_elim] theorem is_Call_k {f:Expr→List Expr→List Keyword→Pos→Bool} (c:onCall (xv x) f=true) (zk:∀ a b d g,f a b d g=true→zP (.Call a b d g)):zP x:=inv (n:=7) (P:=zP) (and2 c).1 (zk _ _ _ _ (and2 c).2)
@[elab_as_elim] theorem is_Constant_k {f:Const→Nat→Pos→Bool} (c:onConstant (xv x) f=true) (zk:∀ a b d,f a b d=true→zP (.Constant a b d)):zP x:=inv (n:=8) (P:=zP) (and2 c).1 (zk _ _ _ (and2 c).2)
@[elab_as_elim] theorem is_Attribute_k {f:Expr→Str→Pos→Bool} (c:onAttribute (xv x) f=true) (zk:∀ a b d,f a b d=true→zP (.Attribute a b d)):zP x:=inv (n:=9) (P:=zP) (and2 c).1 (zk _ _ _ (and2 c).2)
@[elab_as_elim] theorem is_Subscript_k {f:Expr→Expr→Pos→Bool} (c:onSubscript (xv x) f=true) (zk:∀ a b d,f a b d=true→zP (.Subscript a b d)):zP x:=inv (n:=10) (P:=zP) (and2 c).1 (zk _ _ _ (and2 c).2)
@[elab_as_elim] theorem is_Name_k {f:Str→Pos→Bool} (c:onName (xv x) f=true) (zk:∀ a b,f a b=true→zP (.Name a b)):zP x:=inv (n:=11) (P:=zP) (and2 c).1 (zk _ _ (and2 c).2)
@[elab_as_elim] theorem is_List_k {f:List Expr→Pos→Bool} (c:onList (xv x) f=true) (zk:∀ a b,f a b=true→zP (.List a b)):zP x:=inv (n:=12) (P:=zP) (and2 c).1 (zk _ _ (and2 c).2)
@[elab_as_elim] theorem is_Tuple_k {f:List Expr→Nat→Pos→Bool} (c:onTuple (xv x) f=true) (zk:∀ a b d,f a b d=true→zP (.Tuple a b d)):zP x:=inv (n:=13) (P:=zP) (and2 c).1 (zk _ _ _ (and2 c).2)
@[elab_as_elim] theorem is_Slice_k {f:Option Expr→Option Expr→Option Expr→Pos→Bool} (c:onSlice (xv x) f=true) (zk:∀ a b d g,f a b d g=true→zP (.Slice a b d g)):zP x:=inv (n:=14) (P:=zP) (and2 c).1 (zk _ _ _ _ (and2 c).2)
@[elab_as_elim] theorem ch_lit_k {v:V} (c:chE G (.lit v) nm sl x=true) (zk:∀ k y z,litC v k=true→zP (.Constant k y z)):zP x:=is_Constant_k (zP:=zP) (f:=fun k _ _=>litC v k) c zk
@[elab_as_elim] theorem ch_loc_k {i:Nat} (c:chE G (.loc i) nm sl x=true) (zk:∀ n p,isLoc nm sl i n=true→zP (.Name n p)):zP x:=is_Name_k (zP:=zP) (f:=fun n _=>isLoc nm sl i n) c zk
@[elab_as_elim] theorem ch_glob_k {v:V} (c:chE G (.glob v) nm sl x=true) (zk:∀ n p,gIs G nm n (globP v)=true→zP (.Name n p)):zP x:=is_Name_k (zP:=zP) (f:=fun n _=>gIs G nm n (globP v)) c zk
@[elab_as_elim] theorem ch_tup_k {es:List ME} (c:chE G (.tup es) nm sl x=true) (zk:∀ xs k p,es.length≤100→chL G es nm sl xs=true→zP (.Tuple xs k p)):zP x:=is_Tuple_k (zP:=zP) (f:=fun xs _ _=>decide (es.length≤100) && chL G es nm sl xs) c fun a b d c=>zk a b d (of_decide_eq_true (and2 c).1) (and2 c).2
@[elab_as_elim] theorem ch_lst_k {es:List ME} (c:chE G (.lst es) nm sl x=true) (zk:∀ xs p,es.length≤100→chL G es nm sl xs=true→zP (.List xs p)):zP x:=is_List_k (zP:=zP) (f:=fun xs _=>decide (es.length≤100) && chL G es nm sl xs) c fun a b c=>zk a b (of_decide_eq_true (and2 c).1) (and2 c).2
theorem not_t {b:Bool} (h:(!b)=true):b=false:=by cases b with | false=>rfl | true=>exact ff h
@[elab_as_elim] theorem ch_attr_k {o:ME} {a:Nat} (c:chE G (.attr o a) nm sl x=true) (zk:∀ y p,a<22→notSuper y=true→chE G o nm sl y=true→zP (.Attribute y (nmOf a) p)):zP x :=
  is_Attribute_k (zP:=zP) (f:=fun x n _=>n == nmOf a && decide (a<22) && notSuper x && chE G o nm sl x) c fun y n p c =>
  let d:=and2 (and2 (and2 c).1).1
  beq_iff_eq.mp d.1▸zk y p (of_decide_eq_true d.2) (and2 (and2 c).1).2 (and2 c).2
@[elab_as_elim] theorem ch_idx_k {o i:ME} (c:chE G (.idx o i) nm sl x=true) (zk:∀ y s p,isSlice s=false→chE G o nm sl y=true→chE G i nm sl s=true→zP (.Subscript y s p)):zP x :=
  is_Subscript_k (zP:=zP) (f:=fun x s _=>!isSlice s && chE G o nm sl x && chE G i nm sl s) c fun y s p c=>zk y s p (not_t (and2 (and2 c).1).1) (and2 (and2 c).1).2 (and2 c).2
noncomputable def partC (G:Str→Option GV) (nm:Nms) (sl:Sl) (m:ME) (x:Option Expr):Bool:=match x with | some x=>chE G m nm sl x && !noneLit m | none=>noneLit m
@[elab_as_elim] theorem ch_slice_k {o lo hi st:ME} (c:chE G (.slice o lo hi st) nm sl x=true) (zk:∀ y l u s p q,chE G o nm sl y=true→partC G nm sl lo l=true→partC G nm sl hi u=true→partC G nm sl st s=true→zP (.Subscript y (.Slice l u s p) q)):zP x :=
  is_Subscript_k (zP:=zP) (f:=fun y s _=>onSlice (xv s) fun l u t _=>chE G o nm sl y && partC G nm sl lo l && partC G nm sl hi u && partC G nm sl st t) c fun y s q c =>
  is_Slice_k (zP:=fun s=>zP (.Subscript y s q)) (f:=fun l u t _=>chE G o nm sl y && partC G nm sl lo l && partC G nm sl hi u && partC G nm sl st t) c fun l u t p c =>
  zk y l u t p q (and2 (and2 (and2 c).1).1).1 (and2 (and2 (and2 c).1).1).2 (and2 (and2 c).1).2 (and2 c).2
@[elab_as_elim] theorem ch_bin_k {op:BOp} {a b:ME} (c:chE G (.bin op a b) nm sl x=true) (zk:∀ y o z p,opIs op o=true→chE G a nm sl y=true→chE G b nm sl z=true→zP (.BinOp y o z p)):zP x :=
  is_BinOp_k (zP:=zP) (f:=fun x o y _=>opIs op o && chE G a nm sl x && chE G b nm sl y) c fun y o z p c=>zk y o z p (and2 (and2 c).1).1 (and2 (and2 c).1).2 (and2 c).2
@[elab_as_elim] theorem ch_neg_k {a:ME} (c:chE G (.neg a) nm sl x=true) (zk:∀ y p,chE G a nm sl y=true→zP (.UnaryOp .USub y p)):zP x :=
  is_UnaryOp_k (zP:=zP) (f:=fun o y _=>(match o with | .USub=>chE G a nm sl y | _=>false)) c fun o y p c=>by
    cases o with
    | USub=>exact zk y p c
    | _=>exact ff c
@[elab_as_elim] theorem ch_not_k {a:ME} (c:chE G (.not a) nm sl x=true) (zk:∀ y p,chE G a nm sl y=true→zP (.UnaryOp .Not y p)):zP x :=
  is_UnaryOp_k (zP:=zP) (f:=fun o y _=>(match o with | .Not=>chE G a nm sl y | _=>false)) c fun o y p c=>by
    cases o with
    | Not=>exact zk y p c
    | _=>exact ff c
theorem one_of {α:Type} {l:List α} {f:α→Bool} {P:List α→Prop} (c:on1L l f=true) (k:∀ a,f a=true→P [a]):P l:=by
  cases l with
  | nil=>exact ff c
  | cons a r=>cases r with
    | nil=>exact k a c
    | cons=>exact ff c
theorem two_of {α:Type} {l:List α} {f:α→α→Bool} {P:List α→Prop} (c:on2L l f=true) (k:∀ a b,f a b=true→P [a,b]):P l:=by
  cases l with
  | nil=>exact ff c
  | cons a r=>exact one_of (P:=fun r=>P (a::r)) (f:=f a) c fun b c=>k a b c
theorem nil_of {α:Type} {l:List α} {b:Bool} {P:List α→Prop} (c:on0L l b=true) (k:b=true→P []):P l:=by
  cases l with
  | nil=>exact k c
  | cons=>exact ff c
@[elab_as_elim] theorem ch_cmp_k {op:COp} {a b:ME} (c:chE G (.cmp op a b) nm sl x=true) (zk:∀ y o z p,copIs op o=true→notSet z=true→chE G a nm sl y=true→chE G b nm sl z=true→zP (.Compare y [o] [z] p)):zP x :=
  is_Compare_k (zP:=zP) (f:=fun x os ys _=>on1L os fun o=>on1L ys fun y=>copIs op o && notSet y && chE G a nm sl x && chE G b nm sl y) c fun y os zs p c =>
  one_of (P:=fun os=>zP (.Compare y os zs p)) (f:=fun o=>on1L zs fun z=>copIs op o && notSet z && chE G a nm sl y && chE G b nm sl z) c fun o c =>
  one_of (P:=fun zs=>zP (.Compare y [o] zs p)) (f:=fun z=>copIs op o && notSet z && chE G a nm sl y && chE G b nm sl z) c fun z c =>
  zk y o z p (and2 (and2 (and2 c).1).1).1 (and2 (and2 (and2 c).1).1).2 (and2 (and2 c).1).2 (and2 c).2
@[elab_as_elim] theorem ch_and_k {es:List ME} (c:chE G (.and es) nm sl x=true) (zk:∀ xs p,2≤xs.length→chL G es nm sl xs=true→zP (.BoolOp .And xs p)):zP x :=
  is_BoolOp_k (zP:=zP) (f:=fun o xs _=>(match o with | .And=>decide (2≤xs.length) && chL G es nm sl xs | _=>false)) c fun o y p c=>by
    cases o with
    | And=>exact zk y p (of_decide_eq_true (and2 c).1) (and2 c).2
    | _=>exact ff c
@[elab_as_elim] theorem ch_or_k {es:List ME} (c:chE G (.or es) nm sl x=true) (zk:∀ xs p,2≤xs.length→chL G es nm sl xs=true→zP (.BoolOp .Or xs p)):zP x :=
  is_BoolOp_k (zP:=zP) (f:=fun o xs _=>(match o with | .Or=>decide (2≤xs.length) && chL G es nm sl xs | _=>false)) c fun o y p c=>by
    cases o with
    | Or=>exact zk y p (of_decide_eq_true (and2 c).1) (and2 c).2
    | _=>exact ff c
@[elab_as_elim] theorem ch_ife_k {t a b:ME} (c:chE G (.ife t a b) nm sl x=true) (zk:∀ y z w p,chE G t nm sl y=true→chE G a nm sl z=true→chE G b nm sl w=true→zP (.IfExp y z w p)):zP x :=
  is_IfExp_k (zP:=zP) (f:=fun x y z _=>chE G t nm sl x && chE G a nm sl y && chE G b nm sl z) c fun y o z p c=>zk y o z p (and2 (and2 c).1).1 (and2 (and2 c).1).2 (and2 c).2
@[elab_as_elim] theorem name_call_k {P:Str→Pos→List Expr→Bool} (c:(onCall (xv x) fun f xs ks _=>(onName (xv f) fun n p=>on0L ks (P n p xs)))=true) (zk:∀ n p xs q,P n p xs=true→zP (.Call (.Name n p) xs [] q)):zP x :=
  is_Call_k (zP:=zP) (f:=fun f xs ks _=>(onName (xv f) fun n p=>on0L ks (P n p xs))) c fun f xs ks q c =>
  is_Name_k (zP:=fun f=>zP (.Call f xs ks q)) (f:=fun n p=>on0L ks (P n p xs)) c fun n p c =>
  nil_of (P:=fun ks=>zP (.Call (.Name n p) xs ks q)) c fun c=>zk n p xs q c
@[elab_as_elim] theorem attr_call_k {P:Expr→Str→Pos→List Expr→Pos→Bool} (c:(onCall (xv x) fun f xs ks p=>(onAttribute (xv f) fun y n ap=>on0L ks (P y n ap xs p)))=true) (zk:∀ y n ap xs p,P y n ap xs p=true→zP (.Call (.Attribute y n ap) xs [] p)):zP x :=
  is_Call_k (zP:=zP) (f:=fun f xs ks p=>(onAttribute (xv f) fun y n ap=>on0L ks (P y n ap xs p))) c fun f xs ks q c =>
  is_Attribute_k (zP:=fun f=>zP (.Call f xs ks q)) (f:=fun y n ap=>on0L ks (P y n ap xs q)) c fun y n ap c =>
  nil_of (P:=fun ks=>zP (.Call (.Attribute y n ap) xs ks q)) c fun c=>zk y n ap xs q c
@[elab_as_elim] theorem ch_call_k {f:ME} {es:List ME} (c:chE G (.call f es) nm sl x=true) (zk:∀ n p xs q,chE G f nm sl (.Name n p)=true→chL G es nm sl xs=true→zP (.Call (.Name n p) xs [] q)):zP x :=
  name_call_k (zP:=zP) (P:=fun n p xs=>chE G f nm sl (.Name n p) && chL G es nm sl xs) c fun n p xs q c=>zk n p xs q (and2 c).1 (and2 c).2
@[elab_as_elim] theorem ch_new_k {k:Nat} {es:List ME} (c:chE G (.new k es) nm sl x=true) (zk:∀ n p xs q,k<5→gIs G nm n (fun g=>match g with | .cls j=>j == k | _=>false)=true→chL G es nm sl xs=true→zP (.Call (.Name n p) xs [] q)):zP x :=
  name_call_k (zP:=zP) (P:=fun n p xs=>decide (k<5) && gIs G nm n (fun g=>match g with | .cls j=>j == k | _=>false) && chL G es nm sl xs) c fun n p xs q c=>zk n p xs q (of_decide_eq_true (and2 (and2 c).1).1) (and2 (and2 c).1).2 (and2 c).2
@[elab_as_elim] theorem ch_prim_k {k:Pr} {es:List ME} (c:chE G (.prim k es) nm sl x=true) (zk:∀ p xs q,gIs G nm (prName k) (fun g=>match g with | .pr _=>true | _=>false)=true→chL G es nm sl xs=true→zP (.Call (.Name (prName k) p) xs [] q)):zP x :=
  name_call_k (zP:=zP) (P:=fun n p xs=>n == prName k && gIs G nm n (fun g=>match g with | .pr _=>true | _=>false) && chL G es nm sl xs) c fun n p xs q c=>by
    cases beq_iff_eq.mp (and2 (and2 c).1).1
    exact zk p xs q (and2 (and2 c).1).2 (and2 c).2
@[elab_as_elim] theorem ch_meth_k {o:ME} {m:Nat} {es:List ME} (c:chE G (.meth o m es) nm sl x=true) (zk:∀ y ap xs p,(100≤m∧m<119)→xs.length<20→(ap.endLine == p.line)=true→notSuper y=true→chE G o nm sl y=true→chL G es nm sl xs=true→zP (.Call (.Attribute y (mmOf m) ap) xs [] p)):zP x :=
  attr_call_k (zP:=zP) (P:=fun y n ap xs p=>n == mmOf m && decide (100≤m∧m<119) && decide (xs.length<20) && (ap.endLine == p.line) && notSuper y && chE G o nm sl y && chL G es nm sl xs) c fun y n ap xs p c=>by
    have d:=(and2 (and2 (and2 c).1).1).1
    have g:=(and2 (and2 d).1).1
    cases beq_iff_eq.mp (and2 g).1
    exact zk y ap xs p (of_decide_eq_true (and2 g).2) (of_decide_eq_true (and2 (and2 d).1).2) (and2 d).2 (and2 (and2 (and2 c).1).1).2 (and2 (and2 c).1).2 (and2 c).2
@[elab_as_elim] theorem ch_bmeth_k {o:ME} {m:BM} {es:List ME} (c:chE G (.bmeth o m es) nm sl x=true) (zk:∀ y ap xs p,xs.length<20→(ap.endLine == p.line)=true→notSuper y=true→chE G o nm sl y=true→chL G es nm sl xs=true→zP (.Call (.Attribute y (bmName m) ap) xs [] p)):zP x :=
  attr_call_k (zP:=zP) (P:=fun y n ap xs p=>n == bmName m && decide (xs.length<20) && (ap.endLine == p.line) && notSuper y && chE G o nm sl y && chL G es nm sl xs) c fun y n ap xs p c=>by
    have d:=(and2 (and2 (and2 c).1).1).1
    cases beq_iff_eq.mp (and2 (and2 d).1).1
    exact zk y ap xs p (of_decide_eq_true (and2 (and2 d).1).2) (and2 d).2 (and2 (and2 (and2 c).1).1).2 (and2 (and2 c).1).2 (and2 c).2
@[elab_as_elim] theorem ch_isin_k {o:ME} {k:IK} (c:chE G (.isin o k) nm sl x=true) (zk:∀ n p y pz q,gIs G nm n isiP=true→gIs G nm (ikName k) (ikP k)=true→notStar y=true→chE G o nm sl y=true→zP (.Call (.Name n p) [y,.Name (ikName k) pz] [] q)):zP x :=
  name_call_k (zP:=zP) (P:=fun n _ xs=>on2L xs fun y w=>(onName (xv w) fun z _=>gIs G nm n isiP && z == ikName k && gIs G nm z (ikP k) && notStar y && chE G o nm sl y)) c fun n p xs q c =>
  two_of (P:=fun xs=>zP (.Call (.Name n p) xs [] q)) (f:=fun y w=>(onName (xv w) fun z _=>gIs G nm n isiP && z == ikName k && gIs G nm z (ikP k) && notStar y && chE G o nm sl y)) c fun y w c =>
  is_Name_k (zP:=fun w=>zP (.Call (.Name n p) [y,w] [] q)) (f:=fun z _=>gIs G nm n isiP && z == ikName k && gIs G nm z (ikP k) && notStar y && chE G o nm sl y) c fun z pz c=>by
    have d:=(and2 (and2 c).1).1
    cases beq_iff_eq.mp (and2 (and2 d).1).2
    exact zk n p y pz q (and2 (and2 d).1).1 (and2 d).2 (and2 (and2 c).1).2 (and2 c).2
@[elab_as_elim] theorem ch_dict_k {es:List ME} (c:chE G (.dict es) nm sl x=true) (zk:∀ ks us p,us.length≤15→chD G es nm sl ks us=true→zP (.Dict ks us p)):zP x :=
  is_Dict_k (zP:=zP) (f:=fun ks vs _=>decide (vs.length≤15) && chD G es nm sl ks vs) c fun ks us p c=>zk ks us p (of_decide_eq_true (and2 c).1) (and2 c).2
theorem comp_gens {elt src:ME} {t:CT} {k:Nat} {cs:List ME} {gs:List Comprehension} {sc:Scope} {p:Pos} {P:List Comprehension→Prop} (c:chE G (.comp elt src t k cs) nm sl (.ListComp x gs sc p)=true)
    (zk:∀ tg it ifs,chE G (.comp elt src t k cs) nm sl (.ListComp x [⟨tg,it,ifs,0⟩] sc p)=true→P [⟨tg,it,ifs,0⟩]):P gs:=by
  cases gs with
  | nil=>exact ff c
  | cons g gs =>
    obtain⟨tg,it,ifs,n⟩:=g
    cases n with
    | negSucc=>exact ff c
    | ofNat n=>cases n with
      | succ=>exact ff c
      | zero=>cases gs with
        | nil=>exact zk tg it ifs c
        | cons=>exact ff c
@[elab_as_elim] theorem ch_comp_k {elt src:ME} {t:CT} {k:Nat} {cs:List ME} (c:chE G (.comp elt src t k cs) nm sl x=true) (zk:∀ y tg it ifs sc p,chE G (.comp elt src t k cs) nm sl (.ListComp y [⟨tg,it,ifs,0⟩] sc p)=true→zP (.ListComp y [⟨tg,it,ifs,0⟩] sc p)):zP x :=
  is_ListComp_k (zP:=fun x=>chE G (.comp elt src t k cs) nm sl x=true→zP x) (f:=fun _ _ _ _=>true) (and2 (b:=true) (show(Nat.beq (xv x).t 5 && true)=true from by rw [Bool.and_true]; exact(and2 c).1) |> fun h=>show(Nat.beq (xv x).t 5 && true)=true from by rw [h.1]; rfl)
    (fun y gs sc p _ c=>comp_gens (P:=fun gs=>zP (.ListComp y gs sc p)) c fun tg it ifs c=>zk y tg it ifs sc p c) c
section
variable {s:Stmt} {zS:Stmt→Prop}
@[elab_as_elim] theorem is_Expr_k {f:Expr→Pos→Bool} (c:onSExpr (sv s) f=true) (zk:∀ a b,f a b=true→zS (.Expr a b)):zS s:=invS (n:=0) (P:=zS) (and2 c).1 (zk _ _ (and2 c).2)
@[elab_as_elim] theorem is_Return_k {f:Option Expr→Pos→Bool} (c:onSReturn (sv s) f=true) (zk:∀ a b,f a b=true→zS (.Return a b)):zS s:=invS (n:=1) (P:=zS) (and2 c).1 (zk _ _ (and2 c).2)
@[elab_as_elim] theorem is_Assign_k {f:List Expr→Expr→Pos→Bool} (c:onSAssign (sv s) f=true) (zk:∀ a b d,f a b d=true→zS (.Assign a b d)):zS s:=invS (n:=2) (P:=zS) (and2 c).1 (zk _ _ _ (and2 c).2)
@[elab_as_elim] theorem is_AugAssign_k {f:Expr→Operator→Expr→Pos→Bool} (c:onSAugAssign (sv s) f=true) (zk:∀ a b d g,f a b d g=true→zS (.AugAssign a b d g)):zS s:=invS (n:=3) (P:=zS) (and2 c).1 (zk _ _ _ _ (and2 c).2)
@[elab_as_elim] theorem is_If_k {f:Expr→List Stmt→List Stmt→Pos→Bool} (c:onSIf (sv s) f=true) (zk:∀ a b d g,f a b d g=true→zS (.If a b d g)):zS s:=invS (n:=4) (P:=zS) (and2 c).1 (zk _ _ _ _ (and2 c).2)
@[elab_as_elim] theorem is_While_k {f:Expr→List Stmt→List Stmt→Pos→Bool} (c:onSWhile (sv s) f=true) (zk:∀ a b d g,f a b d g=true→zS (.While a b d g)):zS s:=invS (n:=5) (P:=zS) (and2 c).1 (zk _ _ _ _ (and2 c).2)
@[elab_as_elim] theorem is_For_k {f:Expr→Expr→List Stmt→List Stmt→Pos→Bool} (c:onSFor (sv s) f=true) (zk:∀ a b d g h,f a b d g h=true→zS (.For a b d g h)):zS s:=invS (n:=6) (P:=zS) (and2 c).1 (zk _ _ _ _ _ (and2 c).2)
@[elab_as_elim] theorem is_Break_k {f:Pos→Bool} (c:onSBreak (sv s) f=true) (zk:∀ a,f a=true→zS (.Break a)):zS s:=invS (n:=7) (P:=zS) (and2 c).1 (zk _ (and2 c).2)
@[elab_as_elim] theorem is_Continue_k {f:Pos→Bool} (c:onSContinue (sv s) f=true) (zk:∀ a,f a=true→zS (.Continue a)):zS s:=invS (n:=8) (P:=zS) (and2 c).1 (zk _ (and2 c).2)
@[elab_as_elim] theorem cs_expr_k {e:ME} (c:chS G (.expr e) nm sl s=true) (zk:∀ x p,notComp x=true→chE G e nm sl x=true→zS (.Expr x p)):zS s :=
  is_Expr_k (zS:=zS) (f:=fun x _=>notComp x && chE G e nm sl x) c fun x p c=>zk x p (and2 c).1 (and2 c).2
@[elab_as_elim] theorem cs_ret_k {e:ME} (c:chS G (.ret e) nm sl s=true) (zk:∀ x p,chE G e nm sl x=true→zS (.Return (some x) p)):zS s :=
  is_Return_k (zS:=zS) (f:=fun x _=>match x with | some x=>chE G e nm sl x | _=>false) c fun x p c=>by
    cases x with
    | none=>exact ff c
    | some x=>exact zk x p c
@[elab_as_elim] theorem cs_asg_k {t:Tg} {e:ME} (c:chS G (.asg t e) nm sl s=true) (zk:∀ y x p,chT G t nm sl y=true→chE G e nm sl x=true→asgS nm sl t y x=true→zS (.Assign [y] x p)):zS s :=
  is_Assign_k (zS:=zS) (f:=fun ts x _=>match ts with | y::r=>(match r with | []=>chT G t nm sl y && chE G e nm sl x && asgS nm sl t y x | _=>false) | []=>false) c fun ts x p c=>by
    cases ts with
    | nil=>exact ff c
    | cons y r=>cases r with
      | nil=>exact zk y x p (and2 (and2 c).1).1 (and2 (and2 c).1).2 (and2 c).2
      | cons=>exact ff c
theorem cmpS_inv {P:Expr→Expr→Tg→Prop} {y:Expr} {t:Tg} (c:cmpS nm y x t=true) (zk:∀ n py e g sc px i,(nm.lookup n == some .local && py.line == px.line && !(sc.names.any fun(z,k)=>z == n && (k == .local || k == .cell)))=true→P (.Name n py) (.ListComp e g sc px) (.loc i)):P y x t :=
  is_Name_k (zP:=fun y=>P y x t) (f:=fun n py=>onListComp (xv x) fun _ _ sc px=>isLocT t && (nm.lookup n == some .local && py.line == px.line && !(sc.names.any fun(z,k)=>z == n && (k == .local || k == .cell)))) c fun n py c =>
  is_ListComp_k (zP:=fun x=>P (.Name n py) x t) (f:=fun _ _ sc px=>isLocT t && (nm.lookup n == some .local && py.line == px.line && !(sc.names.any fun(z,k)=>z == n && (k == .local || k == .cell)))) c fun e g sc px c=>by
    cases t with
    | loc i=>exact zk n py e g sc px i c
    | _=>exact ff c
theorem cmpS_inv_k {y:Expr} {t:Tg} (c:cmpS nm y x t=true) {zg:Prop} (zk:∀ n py e g sc px i,y=.Name n py→x=.ListComp e g sc px→t=.loc i→(nm.lookup n == some .local && py.line == px.line && !(sc.names.any fun(z,k)=>z == n && (k == .local || k == .cell)))=true→zg):zg :=
  cmpS_inv (P:=fun y' x' t'=>y=y'→x=x'→t=t'→zg) c (fun n py e g sc px i h a b d=>zk n py e g sc px i a b d h) rfl rfl rfl
theorem cD_nil {ks:List (Option Expr)} {us:List Expr} (c:chD G [] nm sl ks us=true):ks=[]∧us=[]:=by
  cases ks with
  | nil=>cases us with
    | nil=>exact⟨rfl,rfl⟩
    | cons=>exact ff c
  | cons=>exact ff c
@[elab_as_elim] theorem cs_auga_k {o:ME} {a:Nat} {op:BOp} {e:ME} (c:chS G (.auga o a op e) nm sl s=true) (zk:∀ x xp q y p,opIs op q=true→a<22→notSuper x=true→chE G o nm sl x=true→chE G e nm sl y=true→zS (.AugAssign (.Attribute x (nmOf a) xp) q y p)):zS s :=
  is_AugAssign_k (zS:=zS) (f:=fun z q y _=>(onAttribute (xv z) fun x n _=>opIs op q && n == nmOf a && decide (a<22) && notSuper x && chE G o nm sl x && chE G e nm sl y)) c fun z q y p c =>
  is_Attribute_k (zP:=fun z=>zS (.AugAssign z q y p)) (f:=fun x n _=>opIs op q && n == nmOf a && decide (a<22) && notSuper x && chE G o nm sl x && chE G e nm sl y) c fun x n xp c=>by
    have d:=(and2 (and2 (and2 c).1).1).1
    cases beq_iff_eq.mp (and2 (and2 d).1).2
    exact zk x xp q y p (and2 (and2 d).1).1 (of_decide_eq_true (and2 d).2) (and2 (and2 (and2 c).1).1).2 (and2 (and2 c).1).2 (and2 c).2
@[elab_as_elim] theorem cs_ife_k {t:ME} {b o:List MS} (c:chS G (.ife t b o) nm sl s=true) (zk:∀ x y z p,chE G t nm sl x=true→chB G b nm sl y=true→chB G o nm sl z=true→zS (.If x y z p)):zS s :=
  is_If_k (zS:=zS) (f:=fun x y z _=>chE G t nm sl x && chB G b nm sl y && chB G o nm sl z) c fun x y z p c=>zk x y z p (and2 (and2 c).1).1 (and2 (and2 c).1).2 (and2 c).2
@[elab_as_elim] theorem cs_whl_k {t:ME} {b:List MS} (c:chS G (.whl t b) nm sl s=true) (zk:∀ x y p,chE G t nm sl x=true→chB G b nm sl y=true→zS (.While x y [] p)):zS s :=
  is_While_k (zS:=zS) (f:=fun x y z _=>on0L z (chE G t nm sl x && chB G b nm sl y)) c fun x y z p c =>
  nil_of (P:=fun z=>zS (.While x y z p)) c fun c=>zk x y p (and2 c).1 (and2 c).2
@[elab_as_elim] theorem cs_for_k {t:CT} {e:ME} {b:List MS} (c:chS G (.for t e b) nm sl s=true) (zk:∀ y x z p,ctIs nm sl t y=true→notSet x=true→chE G e nm sl x=true→chB G b nm sl z=true→zS (.For y x z [] p)):zS s :=
  is_For_k (zS:=zS) (f:=fun y x z o _=>on0L o (ctIs nm sl t y && notSet x && chE G e nm sl x && chB G b nm sl z)) c fun y x z o p c =>
  nil_of (P:=fun o=>zS (.For y x z o p)) c fun c=>zk y x z p (and2 (and2 (and2 c).1).1).1 (and2 (and2 (and2 c).1).1).2 (and2 (and2 c).1).2 (and2 c).2
@[elab_as_elim] theorem cs_brk (c:chS G .brk nm sl s=true) (zk:∀ p,zS (.Break p)):zS s:=is_Break_k (zS:=zS) (f:=fun _=>true) c fun p _=>zk p
@[elab_as_elim] theorem cs_cont (c:chS G .cont nm sl s=true) (zk:∀ p,zS (.Continue p)):zS s:=is_Continue_k (zS:=zS) (f:=fun _=>true) c fun p _=>zk p
theorem cb_nil {xs:List Stmt} (c:chB G [] nm sl xs=true):xs=[]:=by
  cases xs with
  | nil=>rfl
  | cons=>exact ff c
@[elab_as_elim] theorem cb_cons_k {zL:List Stmt→Prop} {st:MS} {b:List MS} {xs:List Stmt} (c:chB G (st::b) nm sl xs=true) (zk:∀ x ys,chS G st nm sl x=true→chB G b nm sl ys=true→zL (x::ys)):zL xs:=by
  cases xs with
  | nil=>exact ff c
  | cons x ys=>exact zk x ys (and2 c).1 (and2 c).2
@[elab_as_elim] theorem cT_loc_k {i:Nat} (c:chT G (.loc i) nm sl x=true) (zk:∀ n p,isLoc nm sl i n=true→zP (.Name n p)):zP x:=is_Name_k (zP:=zP) (f:=fun n _=>isLoc nm sl i n) c zk
@[elab_as_elim] theorem cT_attr_k {o:ME} {a:Nat} (c:chT G (.attr o a) nm sl x=true) (zk:∀ y p,a<22→chE G o nm sl y=true→zP (.Attribute y (nmOf a) p)):zP x :=
  is_Attribute_k (zP:=zP) (f:=fun x n _=>n == nmOf a && decide (a<22) && chE G o nm sl x) c fun y n p c=>by
    cases beq_iff_eq.mp (and2 (and2 c).1).1
    exact zk y p (of_decide_eq_true (and2 (and2 c).1).2) (and2 c).2
@[elab_as_elim] theorem cT_idx_k {o i:ME} (c:chT G (.idx o i) nm sl x=true) (zk:∀ y s p,isSlice s=false→chE G o nm sl y=true→chE G i nm sl s=true→zP (.Subscript y s p)):zP x :=
  is_Subscript_k (zP:=zP) (f:=fun x s _=>!isSlice s && chE G o nm sl x && chE G i nm sl s) c fun y s p c=>zk y s p (not_t (and2 (and2 c).1).1) (and2 (and2 c).1).2 (and2 c).2
@[elab_as_elim] theorem cT_tup_k {ts:List Tg} (c:chT G (.tup ts) nm sl x=true) (zk:∀ xs k p,chTs G ts nm sl xs=true→zP (.Tuple xs k p)):zP x:=is_Tuple_k (zP:=zP) (f:=fun xs _ _=>chTs G ts nm sl xs) c zk
theorem cTs_nil {xs:List Expr} (c:chTs G [] nm sl xs=true):xs=[]:=by
  cases xs with
  | nil=>rfl
  | cons=>exact ff c
@[elab_as_elim] theorem cTs_cons_k {zL:List Expr→Prop} {t:Tg} {ts:List Tg} {xs:List Expr} (c:chTs G (t::ts) nm sl xs=true) (zk:∀ x ys,chT G t nm sl x=true→chTs G ts nm sl ys=true→zL (x::ys)):zL xs:=by
  cases xs with
  | nil=>exact ff c
  | cons x ys=>exact zk x ys (and2 c).1 (and2 c).2
theorem go_nil {xs:List Expr} (c:ctGo nm sl [] xs=true):xs=[]:=by
  cases xs with
  | nil=>rfl
  | cons=>exact ff c
@[elab_as_elim] theorem go_cons_k {zL:List Expr→Prop} {i:Nat} {is:List Nat} {xs:List Expr} (c:ctGo nm sl (i::is) xs=true) (zk:∀ n p ys,isLoc nm sl i n=true→ctGo nm sl is ys=true→zL (.Name n p::ys)):zL xs:=by
  cases xs with
  | nil=>exact ff c
  | cons x ys=>exact is_Name_k (x:=x) (zP:=fun x=>zL (x::ys)) (f:=fun n _=>isLoc nm sl i n && ctGo nm sl is ys) c fun n p c=>zk n p ys (and2 c).1 (and2 c).2
@[elab_as_elim] theorem ct_one_k {i:Nat} (c:ctIs nm sl (.one i) x=true) (zk:∀ n p,isLoc nm sl i n=true→zP (.Name n p)):zP x:=is_Name_k (zP:=zP) (f:=fun n _=>isLoc nm sl i n) c zk
@[elab_as_elim] theorem ct_many_k {is:List Nat} (c:ctIs nm sl (.many is) x=true) (zk:∀ xs k p,ctGo nm sl is xs=true→zP (.Tuple xs k p)):zP x:=is_Tuple_k (zP:=zP) (f:=fun xs _ _=>ctGo nm sl is xs) c zk
end
end
section
variable {P:Pg} {call:CallT} {l:Lo} {H H':Hp} {v:V}
theorem bnd_some_k {α β:Type} {m:Option (α×Hp)} {f:α→Hp→Option β} {r:β} (e:bnd m f=some r) {zg:Prop} (zk:∀ a,∀ H,(m=some (a,H))→(f a H=some r)→zg):zg:=by
  unfold bnd at e
  split at e
  · exact zk _ _ rfl e
  · exact nn e
theorem bnd_some {α β:Type} {m:Option (α×Hp)} {f:α→Hp→Option β} {r:β} (e:bnd m f=some r):∃ a H,m=some (a,H)∧f a H=some r:=bnd_some_k e fun a H zh1 zh2=>⟨a,H,zh1,zh2⟩
theorem ev_lit {u:V} (e:evE P call (.lit u) l H=some (v,H')):u=v∧H=H':=by
  have e:some (u,H)=some (v,H'):=e
  cases e; exact⟨rfl,rfl⟩
theorem ev_glob {u:V} (e:evE P call (.glob u) l H=some (v,H')):u=v∧H=H':=by
  have e:some (u,H)=some (v,H'):=e
  cases e; exact⟨rfl,rfl⟩
theorem ev_loc {i:Nat} (e:evE P call (.loc i) l H=some (v,H')):l[i]? = some (some v)∧H=H':=by
  have e:(match l[i]? with | some (some v)=>some (v,H) | _=>none)=some (v,H'):=e
  cases h:l[i]? with
  | none=>rw [h] at e; exact nn e
  | some o=>cases o with
    | none=>rw [h] at e; exact nn e
    | some u=>rw [h] at e; cases e; exact⟨rfl,rfl⟩
theorem ev_tup_k {es:List ME} (e:evE P call (.tup es) l H=some (v,H')) {zg:Prop} (zk:∀ vs,(evL P call es l H=some (vs,H'))→(v=.tup vs)→zg):zg:=by
  refine bnd_some_k (m:=evL P call es l H) (f:=fun vs H=>some (V.tup vs,H)) e fun vs H1 e1 e=>?_
  cases e; exact zk vs e1 rfl
theorem ev_lst_k {es:List ME} (e:evE P call (.lst es) l H=some (v,H')) {zg:Prop} (zk:∀ vs,∀ H1,(evL P call es l H=some (vs,H1))→(v=.loc H1.length)→(H'=H1++[.list vs])→zg):zg:=by
  refine bnd_some_k (m:=evL P call es l H) (f:=fun vs H=>some (V.loc H.length,H++[O.list vs])) e fun vs H1 e1 e=>?_
  cases e; exact zk vs H1 e1 rfl rfl
theorem ev_attr_k {o:ME} {a:Nat} (e:evE P call (.attr o a) l H=some (v,H')) {zg:Prop} (zk:∀ ov,(evE P call o l H=some (ov,H'))→(getA H' ov a=some v)→zg):zg:=by
  refine bnd_some_k (m:=evE P call o l H) (f:=fun o H=>(match getA H o a with | some v=>some (v,H) | none=>none)) e fun ov H1 e1 e=>?_
  cases h:getA H1 ov a with
  | none=>rw [h] at e; exact nn e
  | some u=>rw [h] at e; cases e; exact zk ov e1 h
theorem ev_idx_k {o i:ME} (e:evE P call (.idx o i) l H=some (v,H')) {zg:Prop} (zk:∀ ov,∀ H1,∀ iv,(evE P call o l H=some (ov,H1))→(evE P call i l H1=some (iv,H'))→(idxV H' ov iv=some v)→zg):zg:=by
  refine bnd_some_k (m:=evE P call o l H) (f:=fun o H=>bnd (evE P call i l H) fun i H=>(match idxV H o i with | some v=>some (v,H) | none=>none)) e fun ov H1 e1 e=>?_
  refine bnd_some_k (m:=evE P call i l H1) e fun iv H2 e2 e=>?_
  cases h:idxV H2 ov iv with
  | none=>rw [h] at e; exact nn e
  | some u=>rw [h] at e; cases e; exact zk ov H1 iv e1 e2 h
theorem ev_slice_k {o lo hi st:ME} {r:V×Hp} (e:evE P call (.slice o lo hi st) l H=some r) {zg:Prop} (zk:∀ ov,∀ H1,∀ lv,∀ H2,∀ uv,∀ H3,∀ tv,∀ H4,(evE P call o l H=some (ov,H1))→(evE P call lo l H1=some (lv,H2))→(evE P call hi l H2=some (uv,H3))→(evE P call st l H3=some (tv,H4))→(sliceV ov lv uv tv H4=some r)→zg):zg:=by
  refine bnd_some_k (m:=evE P call o l H) (f:=fun o H=>bnd (evE P call lo l H) fun lo H=>bnd (evE P call hi l H) fun hi H=>bnd (evE P call st l H) fun st H=>sliceV o lo hi st H) e fun ov H1 e1 e=>?_
  refine bnd_some_k (m:=evE P call lo l H1) e fun lv H2 e2 e=>?_
  refine bnd_some_k (m:=evE P call hi l H2) e fun uv H3 e3 e=>?_
  refine bnd_some_k (m:=evE P call st l H3) e fun tv H4 e4 e=>?_
  exact zk ov H1 lv H2 uv H3 tv H4 e1 e2 e3 e4 e
theorem ev_bin_k {op:BOp} {a b:ME} {r:V×Hp} (e:evE P call (.bin op a b) l H=some r) {zg:Prop} (zk:∀ x,∀ H1,∀ y,∀ H2,(evE P call a l H=some (x,H1))→(evE P call b l H1=some (y,H2))→(binV op x y H2=some r)→zg):zg:=by
  refine bnd_some_k (m:=evE P call a l H) (f:=fun a H=>bnd (evE P call b l H) fun b H=>binV op a b H) e fun ov H1 e1 e=>?_
  refine bnd_some_k (m:=evE P call b l H1) e fun iv H2 e2 e=>?_
  exact zk ov H1 iv H2 e1 e2 e
theorem ev_neg_k {a:ME} (e:evE P call (.neg a) l H=some (v,H')) {zg:Prop} (zk:∀ i,(evE P call a l H=some (.int i,H'))→(v=.int (-i))→zg):zg:=by
  refine bnd_some_k (m:=evE P call a l H) (f:=fun a H=>(match a with | .int i=>some (V.int (-i),H) | _=>none)) e fun ov H1 e1 e=>?_
  cases ov <;> first | (cases e; exact zk _ e1 rfl) | exact nn e
theorem ev_not_k {a:ME} (e:evE P call (.not a) l H=some (v,H')) {zg:Prop} (zk:∀ b,(evE P call a l H=some (.bool b,H'))→(v=.bool (!b))→zg):zg:=by
  refine bnd_some_k (m:=evE P call a l H) (f:=fun a H=>(match a with | .bool b=>some (V.bool (!b),H) | _=>none)) e fun ov H1 e1 e=>?_
  cases ov <;> first | (cases e; exact zk _ e1 rfl) | exact nn e
theorem opt_bool_k {o:Option Bool} {H:Hp} {r:V×Hp} (e:(match o with | some r=>some (V.bool r,H) | none=>none)=some r) {zg:Prop} (zk:∀ b,(o=some b)→((V.bool b,H)=r)→zg):zg:=by
  cases o with
  | none=>exact nn e
  | some b=>exact zk b rfl (Option.some.inj e)
theorem ev_cmp_k {op:COp} {a b:ME} {r:V×Hp} (e:evE P call (.cmp op a b) l H=some r) {zg:Prop} (zk:∀ x,∀ H1,∀ y,∀ H2,∀ q,(evE P call a l H=some (x,H1))→(evE P call b l H1=some (y,H2))→(cmpV H2 op x y=some q)→((V.bool q,H2)=r)→zg):zg:=by
  refine bnd_some_k (m:=evE P call a l H) (f:=fun a H=>bnd (evE P call b l H) fun b H=>(match cmpV H op a b with | some r=>some (V.bool r,H) | none=>none)) e fun ov H1 e1 e=>?_
  refine bnd_some_k (m:=evE P call b l H1) e fun iv H2 e2 e=>?_
  refine opt_bool_k e fun q h e=>?_
  exact zk ov H1 iv H2 q e1 e2 h e
theorem ev_ife {t a b:ME} {r:V×Hp} (e:evE P call (.ife t a b) l H=some r):∃ H1,(evE P call t l H=some (.bool true,H1)∧evE P call a l H1=some r)∨(evE P call t l H=some (.bool false,H1)∧evE P call b l H1=some r):=by
  refine bnd_some_k (m:=evE P call t l H) (f:=fun t H=>(match t with | .bool true=>evE P call a l H | .bool false=>evE P call b l H | _=>none)) e fun ov H1 e1 e=>?_
  cases ov with
  | bool q=>cases q with
    | true=>exact⟨H1,.inl ⟨e1,e⟩⟩
    | false=>exact⟨H1,.inr ⟨e1,e⟩⟩
  | _=>exact nn e
theorem ev_call_k {f:ME} {es:List ME} {r:V×Hp} (e:evE P call (.call f es) l H=some r) {zg:Prop} (zk:∀ k,∀ H1,∀ vs,∀ H2,(evE P call f l H=some (.fn k,H1))→(evL P call es l H1=some (vs,H2))→(call k vs H2=some r)→zg):zg:=by
  obtain⟨k,H1,vs,H2,zh1,zh2,zh3⟩:∃ k H1 vs H2,evE P call f l H=some (.fn k,H1)∧evL P call es l H1=some (vs,H2)∧call k vs H2=some r:=by
    refine bnd_some_k (m:=evE P call f l H) (f:=fun f H=>bnd (evL P call es l H) fun vs H=>(match f with | .fn k=>call k vs H | _=>none)) e fun ov H1 e1 e=>?_
    refine bnd_some_k (m:=evL P call es l H1) e fun vs H2 e2 e=>?_
    cases ov <;> first | exact⟨_,_,_,_,e1,e2,e⟩ | exact nn e
  exact zk k H1 vs H2 zh1 zh2 zh3
theorem ev_new_k {c:Nat} {es:List ME} (e:evE P call (.new c es) l H=some (v,H')) {zg:Prop} (zk:∀ vs,∀ H1,∀ ci,(evL P call es l H=some (vs,H1))→(P.cls[c]? = some ci)→(call ci.init (.loc H1.length::vs) (H1++[.inst c []])=some (.none,H'))→(v=.loc H1.length)→zg):zg:=by
  obtain⟨vs,H1,ci,zh1,zh2,zh3,zh4⟩:∃ vs H1 ci,evL P call es l H=some (vs,H1)∧P.cls[c]? = some ci∧call ci.init (.loc H1.length::vs) (H1++[.inst c []])=some (.none,H')∧v=.loc H1.length:=by
    refine bnd_some_k (m:=evL P call es l H) (f:=fun vs H=>(match P.cls[c]? with
      | some ci=>bnd (call ci.init (.loc H.length::vs) (H++[.inst c []])) fun r H'=>(match r with | .none=>some (V.loc H.length,H') | _=>none)
      | none=>none)) e fun vs H1 e1 e=>?_
    cases h:P.cls[c]? with
    | none=>rw [h] at e; exact nn e
    | some ci =>
      rw [h] at e
      refine bnd_some_k (m:=call ci.init (.loc H1.length::vs) (H1++[.inst c []])) e fun r H2 e2 e=>?_
      cases r <;> first | (cases e; exact⟨vs,H1,ci,e1,rfl,e2,rfl⟩) | exact nn e
  exact zk vs H1 ci zh1 zh2 zh3 zh4
theorem ev_meth_k {o:ME} {m:Nat} {es:List ME} {r:V×Hp} (e:evE P call (.meth o m es) l H=some r) {zg:Prop} (zk:∀ n,∀ H1,∀ c,∀ fs,∀ ci,∀ k,∀ vs,∀ H2,(evE P call o l H=some (.loc n,H1))→(H1[n]? = some (.inst c fs))→(P.cls[c]? = some ci)→(lookN m ci.meths=some k)→(evL P call es l H1=some (vs,H2))→(call k (.loc n::vs) H2=some r)→zg):zg:=by
  refine bnd_some_k (m:=evE P call o l H) (f:=fun o H=>(match o with
    | .loc n=>(match H[n]? with
      | some (.inst c _)=>(match P.cls[c]? with
        | some ci=>(match lookN m ci.meths with
          | some k=>bnd (evL P call es l H) fun vs H=>call k (o::vs) H
          | none=>none)
        | none=>none)
      | _=>none)
    | _=>none)) e fun ov H1 e1 e=>?_
  cases ov with
  | loc n =>
    dsimp only at e
    cases h:H1[n]? with
    | none=>rw [h] at e; exact nn e
    | some ob=>cases ob with
      | inst c fs =>
        rw [h] at e
        dsimp only at e
        cases h2:P.cls[c]? with
        | none=>rw [h2] at e; exact nn e
        | some ci =>
          rw [h2] at e
          dsimp only at e
          cases h3:lookN m ci.meths with
          | none=>rw [h3] at e; exact nn e
          | some k =>
            rw [h3] at e
            refine bnd_some_k e fun vs H2 e2 e=>?_
            exact zk n H1 c fs ci k vs H2 e1 h h2 h3 e2 e
      | _=>rw [h] at e; exact nn e
  | _=>exact nn e
theorem ev_bmeth_k {o:ME} {m:BM} {es:List ME} {r:V×Hp} (e:evE P call (.bmeth o m es) l H=some r) {zg:Prop} (zk:∀ ov,∀ H1,∀ vs,∀ H2,(evE P call o l H=some (ov,H1))→(bmK m ov H1=true)→(evL P call es l H1=some (vs,H2))→(bmV m ov vs H2=some r)→zg):zg:=by
  refine bnd_some_k (m:=evE P call o l H) (f:=fun o H=>if bmK m o H then bnd (evL P call es l H) fun vs H=>bmV m o vs H else none) e fun ov H1 e1 e=>?_
  cases h:bmK m ov H1 with
  | false=>rw [h] at e; exact nn e
  | true =>
    rw [h] at e
    refine bnd_some_k (m:=evL P call es l H1) e fun vs H2 e2 e=>?_
    exact zk ov H1 vs H2 e1 h e2 e
theorem ev_prim_k {p:Pr} {es:List ME} {r:V×Hp} (e:evE P call (.prim p es) l H=some r) {zg:Prop} (zk:∀ vs,∀ H1,(evL P call es l H=some (vs,H1))→(primV p vs H1=some r)→zg):zg:=by
  obtain⟨vs,H1,zh1,zh2⟩:∃ vs H1,evL P call es l H=some (vs,H1)∧primV p vs H1=some r:=bnd_some (m:=evL P call es l H) (f:=fun vs H=>primV p vs H) e
  exact zk vs H1 zh1 zh2
theorem ev_isin_k {o:ME} {k:IK} (e:evE P call (.isin o k) l H=some (v,H')) {zg:Prop} (zk:∀ ov,∀ b,(evE P call o l H=some (ov,H'))→(isV ov k=some b)→(v=.bool b)→zg):zg:=by
  refine bnd_some_k (m:=evE P call o l H) (f:=fun v H=>(match isV v k with | some b=>some (V.bool b,H) | none=>none)) e fun ov H1 e1 e=>?_
  refine opt_bool_k e fun b h e=>?_
  cases e; exact zk ov b e1 h rfl
theorem ev_comp_k {elt src:ME} {t:CT} {k:Nat} {cs:List ME} (e:evE P call (.comp elt src t k cs) l H=some (v,H')) {zg:Prop} (zk:∀ sv,∀ H1,∀ itr,∀ vs,∀ H2,(evE P call src l H=some (sv,H1))→(iterV H1 sv=some itr)→(compN (fun l H=>evC P call cs l H) (fun l H=>evE P call elt l H) t (l++List.replicate k none) 1048576 itr [] H1=some (vs,H2))→(vs.length≤lim)→(v=.loc H2.length)→(H'=H2++[.list vs])→zg):zg:=by
  refine bnd_some_k (m:=evE P call src l H) (f:=fun s H=>(match iterV H s with
    | some it=>bnd (compN (fun l H=>evC P call cs l H) (fun l H=>evE P call elt l H) t (l++List.replicate k none) 1048576 it [] H) fun vs H =>
        if vs.length≤lim then some (V.loc H.length,H++[O.list vs]) else none
    | none=>none)) e fun sv H1 e1 e=>?_
  cases h:iterV H1 sv with
  | none=>rw [h] at e; exact nn e
  | some itr =>
    rw [h] at e
    refine bnd_some_k e fun vs H2 e2 e=>?_
    by_cases hl:vs.length≤lim
    · rw [if_pos hl] at e
      cases e
      exact zk sv H1 itr vs H2 e1 h e2 hl rfl rfl
    · rw [if_neg hl] at e; exact nn e
theorem ev_dict_k {es:List ME} (e:evE P call (.dict es) l H=some (v,H')) {zg:Prop} (zk:∀ ds,∀ H1,(evD P call es l H=some (ds,H1))→(v=.loc H1.length)→(H'=H1++[.dict ds])→zg):zg:=by
  refine bnd_some_k (m:=evD P call es l H) (f:=fun vs H=>some (V.loc H.length,H++[O.dict vs])) e fun vs H1 e1 e=>?_
  cases e; exact zk vs H1 e1 rfl rfl
theorem bndS_some_k {β:Type} {m:Option (Lo×Hp)} {f:Lo→Hp→Option β} {r:β} (e:bndS m f=some r) {zg:Prop} (zk:∀ l,∀ H,(m=some (l,H))→(f l H=some r)→zg):zg:=by
  cases m with
  | none=>exact nn e
  | some z=>exact zk z.1 z.2 rfl e
section
variable {r:Fl×Lo×Hp}
theorem ex_expr_k {e0:ME} (e:exS P call (.expr e0) l H=some r) {zg:Prop} (zk:∀ v,∀ H1,(evE P call e0 l H=some (v,H1))→((Fl.next,l,H1)=r)→zg):zg:=by
  refine bnd_some_k (m:=evE P call e0 l H) (f:=fun _ H=>(some (Fl.next,l,H):SR)) e fun v H1 e1 e=>?_
  exact zk v H1 e1 (Option.some.inj e)
theorem ex_ret_k {e0:ME} (e:exS P call (.ret e0) l H=some r) {zg:Prop} (zk:∀ v,∀ H1,(evE P call e0 l H=some (v,H1))→((Fl.ret v,l,H1)=r)→zg):zg:=by
  refine bnd_some_k (m:=evE P call e0 l H) (f:=fun v H=>(some (Fl.ret v,l,H):SR)) e fun v H1 e1 e=>?_
  exact zk v H1 e1 (Option.some.inj e)
theorem ex_asg_k {t:Tg} {e0:ME} (e:exS P call (.asg t e0) l H=some r) {zg:Prop} (zk:∀ v,∀ H1,∀ l1,∀ H2,(evE P call e0 l H=some (v,H1))→(asgT (evE P call) t v l H1=some (l1,H2))→((Fl.next,l1,H2)=r)→zg):zg:=by
  refine bnd_some_k (m:=evE P call e0 l H) (f:=fun v H=>bndS (asgT (evE P call) t v l H) fun l H=>(some (Fl.next,l,H):SR)) e fun v H1 e1 e=>?_
  refine bndS_some_k (m:=asgT (evE P call) t v l H1) e fun l1 H2 e2 e=>?_
  exact zk v H1 l1 H2 e1 e2 (Option.some.inj e)
theorem ex_asg {t:Tg} {e0:ME} (e:exS P call (.asg t e0) l H=some r):∃ v H1 l1 H2,evE P call e0 l H=some (v,H1)∧asgT (evE P call) t v l H1=some (l1,H2)∧(Fl.next,l1,H2)=r:=ex_asg_k e fun v H1 l1 H2 zh1 zh2 zh3=>⟨v,H1,l1,H2,zh1,zh2,zh3⟩
theorem ex_ife {t:ME} {b o:List MS} (e:exS P call (.ife t b o) l H=some r):∃ H1,(evE P call t l H=some (.bool true,H1)∧exB P call b l H1=some r)∨(evE P call t l H=some (.bool false,H1)∧exB P call o l H1=some r):=by
  refine bnd_some_k (m:=evE P call t l H) (f:=fun v H=>(match v with | .bool true=>exB P call b l H | .bool false=>exB P call o l H | _=>none)) e fun v H1 e1 e=>?_
  cases v with
  | bool q=>cases q with
    | true=>exact⟨H1,.inl ⟨e1,e⟩⟩
    | false=>exact⟨H1,.inr ⟨e1,e⟩⟩
  | _=>exact nn e
theorem ex_for_k {t:CT} {e0:ME} {b:List MS} (e:exS P call (.for t e0 b) l H=some r) {zg:Prop} (zk:∀ v,∀ H1,∀ it,(evE P call e0 l H=some (v,H1))→(iterV H1 v=some it)→(forN t (fun l H=>exB P call b l H) 1048576 it l H1=some r)→zg):zg:=by
  refine bnd_some_k (m:=evE P call e0 l H) (f:=fun v H=>(match iterV H v with
    | some it=>forN t (fun l H=>exB P call b l H) 1048576 it l H
    | none=>none)) e fun v H1 e1 e=>?_
  cases h:iterV H1 v with
  | none=>rw [h] at e; exact nn e
  | some it=>rw [h] at e; exact zk v H1 it e1 h e
theorem ex_auga_k {o:ME} {a:Nat} {op:BOp} {e0:ME} (e:exS P call (.auga o a op e0) l H=some r) {zg:Prop} (zk:∀ ov,∀ H1,∀ u,∀ b,∀ H2,∀ q,∀ H3,(evE P call o l H=some (ov,H1))→(getA H1 ov a=some u)→(evE P call e0 l H1=some (b,H2))→(augV op u b=some q)→(setA H2 ov a q=some H3)→((Fl.next,l,H3)=r)→zg):zg:=by
  refine bnd_some_k (m:=evE P call o l H) (f:=fun o H=>(match getA H o a with
    | some x=>bnd (evE P call e0 l H) fun b H=>(match augV op x b with | some r=>(match setA H o a r with | some H=>(some (.next,l,H):SR) | none=>none) | none=>none)
    | none=>none)) e fun ov H1 e1 e=>?_
  cases h:getA H1 ov a with
  | none=>rw [h] at e; exact nn e
  | some u =>
    rw [h] at e
    refine bnd_some_k (m:=evE P call e0 l H1) e fun b H2 e2 e=>?_
    cases h2:augV op u b with
    | none=>rw [h2] at e; exact nn e
    | some q =>
      rw [h2] at e
      dsimp only at e
      cases h3:setA H2 ov a q with
      | none=>rw [h3] at e; exact nn e
      | some H3=>rw [h3] at e; exact zk ov H1 u b H2 q H3 e1 h e2 h2 h3 (Option.some.inj e)
end
section
variable {ev:ME→Lo→Hp→Option (V×Hp)} {l1:Lo}
theorem as_attr_k {o:ME} {a:Nat} (e:asgT ev (.attr o a) v l H=some (l1,H')) {zg:Prop} (zk:∀ ov,∀ H1,(ev o l H=some (ov,H1))→(setA H1 ov a v=some H')→(l=l1)→zg):zg:=by
  refine bnd_some_k (m:=ev o l H) (f:=fun o H=>(match setA H o a v with | some H=>some (l,H) | none=>none)) e fun ov H1 e1 e=>?_
  cases h:setA H1 ov a v with
  | none=>rw [h] at e; exact nn e
  | some H2=>rw [h] at e; cases e; exact zk ov H1 e1 h rfl
theorem as_idx_k {o i:ME} (e:asgT ev (.idx o i) v l H=some (l1,H')) {zg:Prop} (zk:∀ ov,∀ H1,∀ iv,∀ H2,(ev o l H=some (ov,H1))→(ev i l H1=some (iv,H2))→(setI H2 ov iv v=some H')→(l=l1)→zg):zg:=by
  refine bnd_some_k (m:=ev o l H) (f:=fun o H=>bnd (ev i l H) fun i H=>(match setI H o i v with | some H=>some (l,H) | none=>none)) e fun ov H1 e1 e=>?_
  refine bnd_some_k (m:=ev i l H1) e fun iv H2 e2 e=>?_
  cases h:setI H2 ov iv v with
  | none=>rw [h] at e; exact nn e
  | some H3=>rw [h] at e; cases e; exact zk ov H1 iv H2 e1 e2 h rfl
theorem as_tup_k {ts:List Tg} {r:Lo×Hp} (e:asgT ev (.tup ts) v l H=some r) {zg:Prop} (zk:∀ vs,(unpk H v=some vs)→(asgTs ev ts vs l H=some r)→zg):zg:=by
  obtain⟨vs,zh1,zh2⟩:∃ vs,unpk H v=some vs∧asgTs ev ts vs l H=some r:=by
    have e:(match unpk H v with | some vs=>asgTs ev ts vs l H | none=>none)=some r:=e
    cases h:unpk H v with
    | none=>rw [h] at e; exact nn e
    | some vs=>rw [h] at e; exact⟨vs,rfl,e⟩
  exact zk vs zh1 zh2
theorem as_tup {ts:List Tg} {r:Lo×Hp} (e:asgT ev (.tup ts) v l H=some r):∃ vs,unpk H v=some vs∧asgTs ev ts vs l H=some r:=as_tup_k e fun vs zh1 zh2=>⟨vs,zh1,zh2⟩
end
end
end Mine
namespace Mine
noncomputable abbrev As:=List (Addr×Option Addr)
noncomputable def owned (as:As):List Addr:=as.flatMap fun p=>p.1::p.2.toList
inductive Im where
  | tup (ws:List Value) | ro (ws:List Value) | rng (a b c:Int)
noncomputable abbrev TS:=Addr→Im→Prop
structure Sur where
  prog:Program
  w:World
  P:Pg
  K:Frag
  fa:List Nat
  ca:List Nat
  G:Str→Option GV
  T0:TS
  h0:Heap
mutual
inductive VR (fa:List Nat) (as:As) (T:TS):V→Value→Prop
  | none:VR fa as T .none .none
  | bool (b:Bool):VR fa as T (.bool b) (.bool b)
  | int (i:Int) (t:Tok):VR fa as T (.int i) (.int i t)
  | str (s:List Nat) (t:Tok):s.length≤lim→VR fa as T (.str s) (.str ⟨s.toArray⟩ t)
  | tup {a:Addr} {l:List V} {ws:List Value}:T a (.tup ws)→l.length≤lim→VRs fa as T l ws→VR fa as T (.tup l) (.ref a)
  | ro {a:Addr} {l:List V} {ws:List Value}:T a (.ro ws)→l.length≤lim→VRs fa as T l ws→VR fa as T (.ro l) (.ref a)
  | rng {a:Addr} {i j k:Int}:T a (.rng i j k)→VR fa as T (.rng i j k) (.ref a)
  | loc {n:Nat} {p:Addr×Option Addr}:as[n]? = some p→VR fa as T (.loc n) (.ref p.1)
  | fn {k:Nat} {a:Addr}:fa[k]? = some a→VR fa as T (.fn k) (.ref a)
inductive VRs (fa:List Nat) (as:As) (T:TS):List V→List Value→Prop
  | nil:VRs fa as T [] []
  | cons {v:V} {w:Value} {l:List V} {ws:List Value}:VR fa as T v w→VRs fa as T l ws→VRs fa as T (v::l) (w::ws)
end
structure Mono (as:As) (T:TS) (as':As) (T':TS):Prop where
  asx:∀(n:Nat) (p:Addr×Option Addr),as[n]? = some p→as'[n]? = some p
  tx:∀(a:Addr) (i:Im),T a i→T' a i
theorem Mono.refl (as:As) (T:TS):Mono as T as T:=⟨fun _ _ e=>e,fun _ _ e=>e⟩
theorem Mono.trans {as as' as'':As} {T T' T'':TS} (x:Mono as T as' T') (y:Mono as' T' as'' T''):Mono as T as'' T'':=⟨fun n p e=>y.asx n p (x.asx n p e),fun a i e=>y.tx a i (x.tx a i e)⟩
mutual
theorem VR.mono {fa:List Nat} {as as':As} {T T':TS} (m:Mono as T as' T') {v:V} {w:Value} (x:VR fa as T v w):VR fa as' T' v w:=by
  cases x with
  | none=>exact .none
  | bool b=>exact .bool b
  | int i t=>exact .int i t
  | str s t h=>exact .str s t h
  | tup h k r=>exact .tup (m.tx _ _ h) k (VRs.mono m r)
  | ro h k r=>exact .ro (m.tx _ _ h) k (VRs.mono m r)
  | rng h=>exact .rng (m.tx _ _ h)
  | loc h=>exact .loc (m.asx _ _ h)
  | fn h=>exact .fn h
theorem VRs.mono {fa:List Nat} {as as':As} {T T':TS} (m:Mono as T as' T') {l:List V} {ws:List Value} (x:VRs fa as T l ws):VRs fa as' T' l ws:=by
  cases x with
  | nil=>exact .nil
  | cons h r=>exact .cons (VR.mono m h) (VRs.mono m r)
end
section
variable {fa:List Nat} {as:As} {T:TS}
theorem VRs.length:∀ {l:List V} {ws:List Value},VRs fa as T l ws→ws.length=l.length
  | _,_,.nil=>rfl
  | _,_,.cons _ r=>congrArg (· + 1) (VRs.length r)
theorem VRs.get:∀ {l:List V} {ws:List Value} (n:Nat),VRs fa as T l ws→∀ {v:V},l[n]? = some v→∃ w,ws[n]? = some w∧VR fa as T v w
  | _,_,0,.cons h _,_,e=>by cases e; exact⟨_,rfl,h⟩
  | _,_,n+1,.cons _ r,_,e=>VRs.get n r (by simpa using e)
theorem VRs.append:∀ {l m:List V} {ws us:List Value},VRs fa as T l ws→VRs fa as T m us→VRs fa as T (l++m) (ws++us)
  | _,_,_,_,.nil,r=>r
  | _,_,_,_,.cons h r,q=>.cons h (VRs.append r q)
theorem VRs.set:∀ {l:List V} {ws:List Value} (n:Nat) {v:V} {w:Value},VRs fa as T l ws→VR fa as T v w→VRs fa as T (l.set n v) (ws.set n w)
  | _,_,_,_,_,.nil,_=>.nil
  | _,_,0,_,_,.cons _ r,q=>.cons q r
  | _,_,n+1,_,_,.cons h r,q=>.cons h (VRs.set n r q)
theorem VRs.take:∀ {l:List V} {ws:List Value} (n:Nat),VRs fa as T l ws→VRs fa as T (l.take n) (ws.take n)
  | _,_,0,_=>by simp; exact .nil
  | _,_,_+1,.nil=>.nil
  | _,_,n+1,.cons h r=>.cons h (VRs.take n r)
theorem VRs.drop:∀ {l:List V} {ws:List Value} (n:Nat),VRs fa as T l ws→VRs fa as T (l.drop n) (ws.drop n)
  | _,_,0,h=>by simpa using h
  | _,_,_+1,.nil=>.nil
  | _,_,n+1,.cons _ r=>VRs.drop n r
theorem VRs.reverse:∀ {l:List V} {ws:List Value},VRs fa as T l ws→VRs fa as T l.reverse ws.reverse
  | _,_,.nil=>.nil
  | _,_,.cons h r=>by
    rw [List.reverse_cons,List.reverse_cons]
    exact VRs.append (VRs.reverse r) (.cons h .nil)
end
noncomputable def ImAt (h:Heap) (a:Addr):Im→Prop
  | .tup ws=>h.IsTuple a ws.toArray
  | .ro ws=>h.IsList a ws.toArray
  | .rng i j k=>∃ t u v,IsRange h a i j k t u v
theorem ImAt.keep {h h':Heap} {a:Addr} {i:Im} (x:ImAt h a i) (k:∀ o,h.get? a=some o→h'.get? a=some o):ImAt h' a i:=by
  cases i with
  | tup ws=>obtain⟨o,e,r⟩:=x; exact⟨o,k _ e,r⟩
  | ro ws=>obtain⟨o,e,r⟩:=x; exact⟨o,k _ e,r⟩
  | rng i j l=>obtain⟨t,u,v,e⟩:=x; exact⟨t,u,v,k _ e⟩
theorem ImAt.alive {h:Heap} {a:Addr} {i:Im} (x:ImAt h a i):∃ o,h.get? a=some o:=by
  cases i with
  | tup ws=>obtain⟨o,e,r⟩:=x; exact⟨o,e⟩
  | ro ws=>obtain⟨o,e,r⟩:=x; exact⟨o,e⟩
  | rng i j l=>obtain⟨t,u,v,e⟩:=x; exact⟨_,e⟩
noncomputable def lst (ws:List Value) (n:Nat):Obj:={ cls:=.type "list",data:=.seq ws.toArray n }
inductive DR (S:Sur) (as:As) (T:TS):List (List Nat×V)→List (Str×Value)→Prop
  | nil:DR S as T [] []
  | cons {k:List Nat} {v:V} {w:Value} {es:List (List Nat×V)} {ds:List (Str×Value)}:VR S.fa as T v w→DR S as T es ds→DR S as T ((k,v)::es) ((⟨k.toArray⟩,w)::ds)
noncomputable def FR (S:Sur) (as:As) (T:TS) (fs:List (Nat×V)) (m:Str→Option Value):Prop :=
  (∀ i v,lookN i fs=some v→i<22∧∃ w,m (nmOf i)=some w∧VR S.fa as T v w)∧∀ x w,m x=some w→∃ i,i<22∧x=nmOf i∧(lookN i fs).isSome
theorem DR.mono {S:Sur} {as as':As} {T T':TS} (m:Mono as T as' T'):∀ {es:List (List Nat×V)} {ds:List (Str×Value)},DR S as T es ds→DR S as' T' es ds
  | _,_,.nil=>.nil
  | _,_,.cons h r=>.cons (h.mono m) (DR.mono m r)
theorem FR.mono {S:Sur} {as as':As} {T T':TS} (m:Mono as T as' T') {fs:List (Nat×V)} {f:Str→Option Value} (h:FR S as T fs f):FR S as' T' fs f :=
  ⟨fun i v e=>let ⟨a,w,b,c⟩:=h.1 i v e; ⟨a,w,b,c.mono m⟩,h.2⟩
inductive OR (S:Sur) (as:As) (T:TS) (h:Heap):O→Addr×Option Addr→Prop
  | list {l:List V} {a:Addr} {ws:List Value} {n:Nat}:h.get? a=some (lst ws n)→l.length≤lim→VRs S.fa as T l ws→OR S as T h (.list l) (a,none)
  | dict {es:List (List Nat×V)} {a:Addr} {ds:List (Str×Value)}:h.DictOf (strKind S.prog S.w) a ds→es.length≤1024→DR S as T es ds→OR S as T h (.dict es) (a,none)
  | inst {c:Nat} {fs:List (Nat×V)} {C a dx:Addr} {f:Str→Option Value}:c<5→S.ca[c]? = some C→h.get? a=some (instObj C dx)→h.Ns1 dx f→FR S as T fs f →
      OR S as T h (.inst c fs) (a,some dx)
theorem mem_owned {as:As} {n:Nat} {p:Addr×Option Addr} (h:as[n]? = some p):p.1∈owned as∧∀ d,p.2=some d→d∈owned as:=by
  have hm:=List.mem_of_getElem? h
  refine⟨List.mem_flatMap.mpr ⟨p,hm,.head _⟩,fun d e=>List.mem_flatMap.mpr ⟨p,hm,?_⟩⟩
  rw [e]; exact .tail _ (.head _)
theorem OR.keep {S:Sur} {as as':As} {T T':TS} {h h':Heap} {o:O} {p:Addr×Option Addr} (x:OR S as T h o p) (m:Mono as T as' T')
    (k1:∀ q,h.get? p.1=some q→h'.get? p.1=some q) (k2:∀ d q,p.2=some d→h.get? d=some q→h'.get? d=some q):OR S as' T' h' o p:=by
  cases x with
  | list e z r=>exact .list (k1 _ e) z (r.mono m)
  | dict e z r=>exact .dict (let ⟨o,es,ep,q,t⟩:=e; ⟨o,es,ep,k1 _ q,t⟩) z (r.mono m)
  | inst c5 c e1 e2 r=>exact .inst c5 c (k1 _ e1) (e2.at fun o q=>k2 _ _ rfl q) (r.mono m)
structure HR (S:Sur) (as:As) (T:TS) (H:Hp) (h:Heap):Prop where
  base:∀ b o,S.h0.get? b=some o→h.get? b=some o
  len:as.length=H.length
  obj:∀(n:Nat) (o:O) (p:Addr×Option Addr),H[n]? = some o→as[n]? = some p→OR S as T h o p
  nd:(owned as).Nodup
  new:∀ a∈owned as,S.h0.get? a=none
  im:∀ a i,T a i→ImAt h a i
  t0:∀ a i,S.T0 a i→T a i
  ro:∀ a ws,T a (.ro ws)→∃ o,S.h0.get? a=some o
  two:∃ o,S.h0.get? cStatics=some o
  big:∀ a∈owned as,sysModules<a
structure Ext (X:Addr→Prop) (as:As) (T:TS) (h:Heap) (as':As) (T':TS) (h':Heap):Prop where
  mono:Mono as T as' T'
  kp:∀ b o,b ∉ owned as→¬ X b→h.get? b=some o→h'.get? b=some o
  al:∀ b,X b→(h.get? b).isSome→(h'.get? b).isSome
  own:∀ b∈owned as',b∈owned as∨h.get? b=none
noncomputable def Nil:Addr→Prop:=fun _=>False
theorem Ext.refl (X:Addr→Prop) (as:As) (T:TS) (h:Heap):Ext X as T h as T h:=⟨.refl ..,fun _ _ _ _ e=>e,fun _ _ e=>e,fun _ e=>.inl e⟩
theorem Ext.trans {X:Addr→Prop} {as as1 as2:As} {T T1 T2:TS} {h h1 h2:Heap} (x:Ext X as T h as1 T1 h1) (y:Ext X as1 T1 h1 as2 T2 h2):Ext X as T h as2 T2 h2:=by
  refine⟨x.mono.trans y.mono,fun b o n1 n2 e=>?_,fun b hb e=>y.al b hb (x.al b hb e),fun b hb=>?_⟩
  · have e1:=x.kp b o n1 n2 e
    refine y.kp b o (fun hb=>?_) n2 e1
    rcases x.own b hb with q | q
    · exact n1 q
    · rw [q] at e; first | exact nn e | exact ff e | cases e
  · rcases y.own b hb with q | q
    · exact x.own b q
    · cases e:h.get? b with
      | none=>exact .inr rfl
      | some o =>
        by_cases ho:b∈owned as
        · exact .inl ho
        · by_cases hX:X b
          · have:=x.al b hX (by rw [e]; rfl); rw [q] at this; first | exact nn this | exact ff this | cases this
          · have:=x.kp b o ho hX e; rw [q] at this; first | exact nn this | exact ff this | cases this
theorem Ext.weak {X Y:Addr→Prop} {as as1:As} {T T1:TS} {h h1:Heap} (x:Ext Nil as T h as1 T1 h1) (hY:∀ b,Y b→b ∉ owned as):Ext Y as T h as1 T1 h1 :=
  ⟨x.mono,fun b o n1 _ e=>x.kp b o n1 (fun q=>q) e,fun b hb e=>by
    obtain⟨o,e⟩:=Option.isSome_iff_exists.mp e
    rw [x.kp b o (hY b hb) (fun q=>q) e]; rfl,x.own⟩
theorem HR.keep {S:Sur} {as:As} {T:TS} {H:Hp} {h h':Heap} (x:HR S as T H h) (k:∀ b o,h.get? b=some o→h'.get? b=some o):HR S as T H h' :=
  ⟨fun b o e=>k b o (x.base b o e),x.len,fun n o p e1 e2=>(x.obj n o p e1 e2).keep (.refl ..) (fun q=>k _ q) (fun d q _=>k _ q),x.nd,x.new,fun a i t=>(x.im a i t).keep (k a),x.t0,x.ro,x.two,x.big⟩
theorem HR.but {S:Sur} {as:As} {T:TS} {H:Hp} {h h':Heap} {y:Addr} (x:HR S as T H h) (k:∀ b o,b≠y→h.get? b=some o→h'.get? b=some o) (ho:y ∉ owned as) (hb:S.h0.get? y=none) (hT:∀ i,¬ T y i):HR S as T H h':=by
  refine⟨fun b o e=>k b o (fun q=>by rw [q,hb] at e; cases e) (x.base b o e),x.len,fun n o p e1 e2=>?_,x.nd,x.new,fun a i t=>(x.im a i t).keep fun o e=>k a o (fun q=>hT i (q▸t)) e,x.t0,x.ro,x.two,x.big⟩
  have hm:=mem_owned e2
  exact(x.obj n o p e1 e2).keep (.refl ..) (fun q=>k _ q fun z=>ho (z▸hm.1)) (fun d q hd=>k _ q fun z=>ho (z▸hm.2 d hd))
theorem owned_append (as bs:As):owned (as++bs)=owned as++owned bs:=by simp [owned]
theorem getElem?_append_some {α:Type} {l m:List α} {n:Nat} {a:α} (h:l[n]? = some a):(l++m)[n]? = some a:=by
  rw [List.getElem?_append_left (by have:=List.getElem?_eq_some_iff.mp h; exact this.1)]; exact h
theorem HR.alive {S:Sur} {as:As} {T:TS} {H:Hp} {h:Heap} (x:HR S as T H h) {b:Addr} (hb:b∈owned as):∃ q,h.get? b=some q:=by
  obtain⟨q,hq,hb⟩:=List.mem_flatMap.mp hb
  obtain⟨n,hn⟩:=List.getElem?_of_mem hq
  have hl:n<H.length:=by rw [← x.len]; exact(List.getElem?_eq_some_iff.mp hn).1
  obtain⟨o,ho⟩:∃ o,H[n]? = some o:=⟨_,List.getElem?_eq_getElem hl⟩
  have:=x.obj n o q ho hn
  cases this with
  | list e _ _=>simp at hb; subst hb; exact⟨_,e⟩
  | dict e _ _=>simp at hb; subst hb; exact(let ⟨o,_,_,e,_⟩:=e; ⟨o,e⟩)
  | inst _ _ e1 e2 _=>simp at hb; rcases hb with rfl | rfl; exact⟨_,e1⟩; exact(let ⟨o,_,_,e,_⟩:=e2; ⟨o,e⟩)
theorem HR.alloc {S:Sur} {as:As} {T:TS} {H:Hp} {h h':Heap} {o:O} {p:Addr×Option Addr} (x:HR S as T H h) (k:∀ b q,h.get? b=some q→h'.get? b=some q)
    (hn:(p.1::p.2.toList).Nodup) (hf:∀ a∈p.1::p.2.toList,h.objs.size≤a) (ho:OR S (as++[p]) T h' o p):HR S (as++[p]) T (H++[o]) h':=by
  have hs:=hf
  have hf:∀ a∈p.1::p.2.toList,h.get? a=none:=fun a ha=>by
    cases e:h.get? a with
    | none=>rfl
    | some o=>exact absurd (Heap.lt_size e) (Nat.not_lt.mpr (hs a ha))
  have m:Mono as T (as++[p]) T:=⟨fun n q e=>getElem?_append_some e,fun _ _ e=>e⟩
  refine⟨fun b q e=>k _ _ (x.base b q e),by simp [x.len],fun n q r e1 e2=>?_,?_,fun a ha=>?_,fun a i t=>(x.im a i t).keep (k a),x.t0,x.ro,x.two,fun a ha=>?_⟩
  · by_cases hl:n<H.length
    · rw [List.getElem?_append_left hl] at e1
      rw [List.getElem?_append_left (by rw [x.len]; exact hl)] at e2
      exact(x.obj n q r e1 e2).keep m (k _) (fun d z _=>k _ z)
    · have:n=H.length:=by
        have:=(List.getElem?_eq_some_iff.mp e1).1; simp at this; exact Nat.le_antisymm (Nat.not_lt.mp (lin [_,_] (.c 1 (.a (.v 0) (.n 1)) (.a (.v 1) (.n 1)) (.c 1 (.a (.v 1) (.n 1)) (.v 0) .z)) rfl this)) (Nat.not_lt.mp (lin [_,_] (.c 1 (.v 0) (.v 1) (.c 1 (.a (.v 1) (.n 1)) (.v 0) .z)) rfl (Nat.not_lt.mp hl)))
      subst this
      rw [List.getElem?_append_right (Nat.le_refl _),Nat.sub_self] at e1
      rw [List.getElem?_append_right (by rw [x.len]; exact Nat.le_refl _),x.len,Nat.sub_self] at e2
      cases e1; cases e2; exact ho
  · rw [owned_append]
    refine List.nodup_append.mpr ⟨x.nd,by simpa [owned] using hn,fun a ha b hb e=>?_⟩
    obtain⟨q,hq⟩:=x.alive ha
    rw [e,hf b (by simpa [owned] using hb)] at hq; cases hq
  · rw [owned_append] at ha
    rcases List.mem_append.mp ha with q | q
    · exact x.new a q
    · cases e:S.h0.get? a with
      | none=>rfl
      | some o'=>have:=x.base a o' e; rw [hf a (by simpa [owned] using q)] at this; cases this
  · rw [owned_append] at ha
    rcases List.mem_append.mp ha with q | q
    · exact x.big a q
    · obtain⟨o',ho'⟩:=x.two
      have h2:=Heap.lt_size (x.base _ _ ho')
      have h3:=hs a (by simpa [owned] using q)
      exact Nat.lt_of_lt_of_le (Nat.lt_trans (by decide) h2) h3
theorem nodup_flat_apart {α β:Type} {f:α→List β}:∀ {l:List α} {i j:Nat} {a b:α},(l.flatMap f).Nodup→l[i]? = some a→l[j]? = some b→i≠j→∀ x∈f a,x ∉ f b:=by
  intro l
  induction l with
  | nil=>intro i j a b _ h; simp at h
  | cons c r ih =>
    intro i j a b hn hi hj hij x hx hb
    rw [List.flatMap_cons] at hn
    obtain⟨n1,n2,n3⟩:=List.nodup_append.mp hn
    cases i with
    | zero=>cases j with
      | zero=>exact hij rfl
      | succ j =>
        simp at hi hj; subst hi
        exact n3 x hx x (List.mem_flatMap.mpr ⟨b,List.mem_of_getElem? hj,hb⟩) rfl
    | succ i=>cases j with
      | zero =>
        simp at hi hj; subst hj
        exact n3 x hb x (List.mem_flatMap.mpr ⟨a,List.mem_of_getElem? hi,hx⟩) rfl
      | succ j =>
        simp at hi hj
        exact ih n2 hi hj (fun q=>hij (by rw [q])) x hx hb
theorem HR.upd {S:Sur} {as:As} {T:TS} {H:Hp} {h h':Heap} {n:Nat} {o:O} {p:Addr×Option Addr} {y:Addr} (x:HR S as T H h) (hp:as[n]? = some p) (hn:n<H.length)
    (hy:y∈p.1::p.2.toList) (k:∀ b q,b≠y→h.get? b=some q→h'.get? b=some q) (ho:OR S as T h' o p) (hT:∀ i,¬ T y i):HR S as T (H.set n o) h':=by
  have yo:y∈owned as:=List.mem_flatMap.mpr ⟨p,List.mem_of_getElem? hp,hy⟩
  refine⟨fun b q e=>k _ _ (fun z=>by rw [z,x.new y yo] at e; cases e) (x.base b q e),by simp [x.len],fun m q r e1 e2=>?_,x.nd,x.new,fun a i t=>(x.im a i t).keep fun q e=>k _ _ (fun z=>hT i (z▸t)) e,x.t0,x.ro,x.two,x.big⟩
  by_cases hm:m=n
  · subst hm
    rw [List.getElem?_set_self hn] at e1
    rw [hp] at e2
    cases e1; cases e2; exact ho
  · rw [List.getElem?_set_ne (Ne.symm hm)] at e1
    have ap:=nodup_flat_apart (f:=fun p:Addr×Option Addr=>p.1::p.2.toList) x.nd e2 hp hm
    exact(x.obj m q r e1 e2).keep (.refl ..) (fun z=>k _ z fun w=>ap _ (.head _) (w▸hy)) (fun d z hd=>k _ z fun w=>ap d (by rw [hd]; exact .tail _ (.head _)) (w▸hy))
end Mine
namespace Mine
theorem kindIs_eq {k l:NameKind} (h:kindIs k l=true):k=l:=by cases k <;> cases l <;> first | rfl | exact ff h | exact nn h | cases h
theorem nkOf_eq (x:Str):∀ nm:Nms,nkOf x nm=nm.lookup x
  | []=>rfl
  | (y,k)::r=>by
    rw [nkOf_2,List.lookup_cons]
    cases h:(x == y) with
    | true=>simp
    | false=>simp; exact nkOf_eq x r
theorem noDbg_mem:∀ {nm:Nms} {x:Str} {k:NameKind},noDbg nm=true→nm.lookup x=some k→(x == (Str.ofString "__debug__"))=false
  | (y,k')::r,x,k,h,e=>by
    simp only [noDbg_1,noDbg_2,Bool.and_eq_true,Bool.not_eq_true'] at h
    rw [List.lookup_cons] at e
    cases q:(x == y) with
    | true=>rw [beq_iff_eq.mp q]; exact h.1
    | false=>rw [q] at e; exact noDbg_mem h.2 e
noncomputable def primVal:Pr→Value
  | .len=>.builtin "len"
  | .abs=>.builtin "abs"
  | .int=>.type "int"
  | .chr=>.builtin "chr"
  | .ord=>.builtin "ord"
  | .list=>.type "list"
  | .range=>.type "range"
  | .min=>.builtin "min"
  | .str=>.type "str"
theorem boot_prim (p:Pr):bootBuiltins (prName p)=some (primVal p)∧prName p≠"__name__":=by cases p <;> exact⟨by kernel_rfl,by decide +kernel⟩
theorem boot_isi:bootBuiltins (Str.ofString "isinstance")=some (.builtin "isinstance")∧Str.ofString "isinstance"≠"__name__":=⟨by kernel_rfl,by decide +kernel⟩
theorem boot_tuple:bootBuiltins (Str.ofString "tuple")=some (.type "tuple")∧Str.ofString "tuple"≠"__name__":=⟨by kernel_rfl,by decide +kernel⟩
structure ClsOk (S:Sur) (C:Addr) (ci:CI):Prop where
  makes:makesIn S.K C=true
  init:∃ a,S.fa[ci.init]? = some a∧findIn S.K (.ref C) "__init__" = some (some (.ref a))∧typeIn S.K (.ref a)=some (.type "function")
  get:findIn S.K (.ref C) "__getattribute__" = some (some (.builtin "object.__getattribute__"))∧findIn S.K (.ref C) "__getattr__" = some none
  hasDict:hasDictIn S.K C=true
  attr:∀ i,i<22→∃ at',findIn S.K (.ref C) (nmOf i)=some at'∧noGet S.K at'=true
  take:∀ i,i<22→takerIn S.K C (nmOf i)=some none
  set:findIn S.K (.ref C) "__setattr__" = some (some (.builtin "object.__setattr__"))
  over:plainOver S.K C=true
  meth:∀ m k,lookN m ci.meths=some k→∃ a,S.fa[k]? = some a∧findIn S.K (.ref C) (mmOf m)=some (some (.ref a))∧typeIn S.K (.ref a)=some (.type "function")
  apart:∀ m k i,lookN m ci.meths=some k→i<22→(nmOf i == mmOf m)=false
noncomputable def tyNames:List String:=["int","str","bool","NoneType","tuple"]
noncomputable def kitAll (K:Frag) (ca:List Nat):Bool :=
  tyNames.all (fun t=>["int","str","tuple"].all fun c=>kitOne K (.type t) (.type c) == some (t == c || (t == "bool" && c == "int"))) &&
  ca.all fun D=>kitOne K (.type "int") (.ref D) == some false && kitOne K (.type "str") (.ref D) == some false
structure Cx (S:Sur):Prop where
  X:S.K.In S.h0
  lim:S.h0.NoLimit
  ns:∃ mg mb,S.h0.Ns mainGlobals mg∧S.h0.Ns builtinsNs mb∧(∀ x:Str,x≠"__name__"→mb x=bootBuiltins x)
  gfn:∀ x k,S.G x=some (.fn k)→∃ a,S.fa[k]? = some a∧nsIn S.K mainGlobals x=some (some (.ref a))
  gval:∀ x v,S.G x=some (.val v)→∃ u,nsIn S.K mainGlobals x=some (some u)∧VR S.fa [] S.T0 v u
  gcls:∀ x c,S.G x=some (.cls c)→∃ C,S.ca[c]? = some C∧nsIn S.K mainGlobals x=some (some (.ref C))∧x=CLSN.getD c Str.empty
  gpr:∀ x p,S.G x=some (.pr p)→nsIn S.K mainGlobals x=some none
  gisi:∀ x,S.G x=some .isi→nsIn S.K mainGlobals x=some none∧x=Str.ofString "isinstance"
  gtyp:∀ x k,S.G x=some (.typ k)→nsIn S.K mainGlobals x=some none
  fns:∀(k:Nat) (fi:FI),S.P.fns[k]? = some fi→∃ a:Nat,S.fa[k]? = some a∧chK S.G S.K fi a=true
  keep:∀(k a:Nat),S.fa[k]? = some a→keepIn S.K (.ref a)=true
  keepC:∀(c C:Nat),S.ca[c]? = some C→keepIn S.K (.ref C)=true
  cls:∀(c C:Nat),c<5→S.ca[c]? = some C→∃ ci:CI,S.P.cls[c]? = some ci∧ClsOk S C ci
  kit:kitAll S.K S.ca=true
structure AOk (A:Around) (d:Nat):Prop where
  handled:A.handled=none
  depth:A.depth+4 * d+8≤1000
  units:A.units+32 * d+200≤9900
structure ER (S:Sur) (as:As) (T:TS) (env:Env) (nm:Nms) (sl:Sl) (l:Lo) (h:Heap):Prop where
  kind:env.scope.kind=.function
  glob:env.globals=mainGlobals
  blt:env.builtins=builtinsNs
  names:env.scope.names=nm
  dbg:noDbg nm=true
  len:l.length=sl.length
  nd:∀(i j:Nat) (x:Str) (b c:Bool),sl[i]? = some (some (x,b))→sl[j]? = some (some (x,c))→i=j
  loc:∃ m,h.Ns env.locals m∧∀(i:Nat) (v:V) (x:Str),l[i]? = some (some v)→sl[i]? = some (some (x,false))→∃ w,m x=some w∧VR S.fa as T v w
  cell:∀(i:Nat) (x:Str),sl[i]? = some (some (x,true))→∃ c w,env.cells.lookup x=some c∧h.IsCell c w∧∀ v,l[i]? = some (some v)→∃ u,w=some u∧VR S.fa as T v u
  cellx:∀ x y c,env.cells.lookup x=some c→env.cells.lookup y=some c→x=y
  cella:∀ x c,env.cells.lookup x=some c→∃ w,h.IsCell c w
  frame:env.locals ∉ owned as∧S.h0.get? env.locals=none
  cells:∀ x c,env.cells.lookup x=some c→c ∉ owned as∧S.h0.get? c=none
noncomputable def EX (env:Env) (b:Addr):Prop:=b=env.locals∨∃ x,env.cells.lookup x=some b
section
variable {S:Sur} {as as':As} {T T':TS} {H H':Hp} {h h':Heap} {env:Env} {nm:Nms} {sl:Sl} {l:Lo}
theorem ns_alive {a:Addr} {m:Str→Option Value} (n:h.Ns a m):∃ o,h.get? a=some o:=let ⟨o,_,_,e,_⟩:=n; ⟨o,e⟩
theorem ns_keep {a:Addr} {m:Str→Option Value} (n:h.Ns a m) (k:∀ o,h.get? a=some o→h'.get? a=some o):h'.Ns a m:=let ⟨o,es,ep,e,r⟩:=n; ⟨o,es,ep,k _ e,r⟩
theorem cell_alive {c:Addr} {w:Option Value} (n:h.IsCell c w):∃ o,h.get? c=some o:=let ⟨o,e,_⟩:=n; ⟨o,e⟩
theorem cell_keep {c:Addr} {w:Option Value} (n:h.IsCell c w) (k:∀ o,h.get? c=some o→h'.get? c=some o):h'.IsCell c w:=let ⟨o,e,r⟩:=n; ⟨o,k _ e,r⟩
theorem ER.ext (x:ER S as T env nm sl l h) (e:Ext Nil as T h as' T' h'):ER S as' T' env nm sl l h':=by
  have k:∀ b o,b ∉ owned as→h.get? b=some o→h'.get? b=some o:=fun b o n q=>e.kp b o n (fun z=>z) q
  have own:∀ b o,b ∉ owned as→h.get? b=some o→b ∉ owned as':=fun b o n q hb=>by
    rcases e.own b hb with z | z
    · exact n z
    · rw [z] at q; first | exact nn q | exact ff q | cases q
  obtain⟨m,hn,hm⟩:=x.loc
  obtain⟨oL,hL⟩:=ns_alive hn
  refine⟨x.kind,x.glob,x.blt,x.names,x.dbg,x.len,x.nd,⟨m,ns_keep hn fun o=>k _ o x.frame.1,fun i v y e1 e2=>?_⟩,fun i y e1=>?_,x.cellx,fun y c e1=>?_,⟨own _ _ x.frame.1 hL,x.frame.2⟩,fun y c e1=>?_⟩
  · obtain⟨w,h1,h2⟩:=hm i v y e1 e2
    exact⟨w,h1,h2.mono e.mono⟩
  · obtain⟨c,w,h1,h2,h3⟩:=x.cell i y e1
    refine⟨c,w,h1,cell_keep h2 fun o=>k _ o (x.cells y c h1).1,fun v hv=>?_⟩
    obtain⟨u,h4,h5⟩:=h3 v hv
    exact⟨u,h4,h5.mono e.mono⟩
  · obtain⟨w,h2⟩:=x.cella y c e1
    exact⟨w,cell_keep h2 fun o=>k _ o (x.cells y c e1).1⟩
  · obtain⟨w,h2⟩:=x.cella y c e1
    obtain⟨o,ho⟩:=cell_alive h2
    exact⟨own _ _ (x.cells y c e1).1 ho,(x.cells y c e1).2⟩
theorem noT_ns (x:HR S as T H h) {a:Addr} {m:Str→Option Value} (n:h.Ns a m) (i:Im):¬ T a i:=fun t=>by
  have:=x.im a i t
  obtain⟨o,es,ep,e,d,_⟩:=n
  cases i with
  | tup ws=>obtain⟨o',e',_,k,d'⟩:=this; rw [e] at e'; cases e'; rw [d] at d'; cases d'
  | ro ws=>obtain⟨o',e',_,k,d'⟩:=this; rw [e] at e'; cases e'; rw [d] at d'; cases d'
  | rng i j k=>obtain⟨t,u,v,e'⟩:=this; have e2:=e.symm.trans e'; cases e2; cases d
theorem noT_cell (x:HR S as T H h) {a:Addr} {w:Option Value} (n:h.IsCell a w) (i:Im):¬ T a i:=fun t=>by
  have:=x.im a i t
  obtain⟨o,e,d⟩:=n
  cases i with
  | tup ws=>obtain⟨o',e',_,k,d'⟩:=this; rw [e] at e'; cases e'; rw [d] at d'; cases d'
  | ro ws=>obtain⟨o',e',_,k,d'⟩:=this; rw [e] at e'; cases e'; rw [d] at d'; cases d'
  | rng i j k=>obtain⟨t,u,v,e'⟩:=this; have e2:=e.symm.trans e'; cases e2; cases d
variable {M:Model} {A:Around} {E:Value→Shared→Prop} {s:Shared} {Q:Value→Shared→Prop} {pos:Pos}
theorem isLoc_spec_k {i:Nat} {x:Str} (c:isLoc nm sl i x=true) {zg:Prop} (zk:∀ b,(sl[i]? = some (some (x,b)))→(nm.lookup x=some (kOf b))→zg):zg:=by
  unfold isLoc at c
  split at c
  · rename_i y b e
    simp only [Bool.and_eq_true] at c
    obtain⟨c1,c2⟩:=c
    obtain rfl:=beq_iff_eq.mp c1
    split at c2
    · rename_i k hk
      refine zk b e ?_
      rw [← nkOf_eq,hk,kindIs_eq c2]
    · first | exact ff c2 | exact nn c2 | cases c2
  · first | exact ff c | exact nn c | cases c
theorem name_loc (x:ER S as T env nm sl l s.heap) {i:Nat} {v:V} {n:Str} (c:isLoc nm sl i n=true) (hv:l[i]? = some (some v)) (k:∀ w,VR S.fa as T v w→Q w s):wpAny M A (eval (.Name n pos) env) Q E s:=by
  refine isLoc_spec_k c fun b e1 e2=>?_
  have hk:env.kindOf n=some (kOf b):=by unfold Env.kindOf; rw [x.names]; exact e2
  have hd:=noDbg_mem x.dbg e2
  cases b with
  | false =>
    obtain⟨m,hn,hm⟩:=x.loc
    obtain⟨w,h1,h2⟩:=hm i v n hv e1
    exact wpAny_Name (wpAny_loadName_local x.kind hk hn h1 (k w h2)) hd
  | true =>
    obtain⟨c,w,h1,h2,h3⟩:=x.cell i n e1
    obtain⟨u,rfl,h5⟩:=h3 v hv
    exact wpAny_Name (wpAny_loadName_cell x.kind hk h1 h2 (k u h5)) hd
theorem isGlob_spec {x:Str} (c:isGlob nm x=true):nm.lookup x=some .globalImplicit:=by
  unfold isGlob at c
  split at c
  · rename_i k hk; rw [← nkOf_eq,hk,kindIs_eq c]
  · first | exact ff c | exact nn c | cases c
theorem gIs_spec_k {G:Str→Option GV} {x:Str} {p:GV→Bool} (c:gIs G nm x p=true) {zg:Prop} (zk:(nm.lookup x=some .globalImplicit)→∀ g,(G x=some g)→(p g=true)→zg):zg:=by
  obtain⟨zh1,g,zh2,zh3⟩:nm.lookup x=some .globalImplicit∧∃ g,G x=some g∧p g=true:=by
    unfold gIs at c
    simp only [Bool.and_eq_true] at c
    refine⟨isGlob_spec c.1,?_⟩
    have:=c.2
    split at this
    · rename_i g hg; exact⟨g,hg,this⟩
    · first | exact ff this | exact nn this | cases this
  exact zk zh1 g zh2 zh3
theorem name_glob (C:Cx S) (x:ER S as T env nm sl l s.heap) (hr:HR S as T H s.heap) {n:Str} (hg:nm.lookup n=some .globalImplicit) {v:Value} (hv:nsIn S.K mainGlobals n=some (some v)) (k:Q v s):wpAny M A (eval (.Name n pos) env) Q E s:=by
  obtain⟨mg,mb,h1,h2,h3⟩:=C.ns
  refine Calls.Name_function_global x.kind (by unfold Env.kindOf; rw [x.names]; exact hg) (Calls.loadGlobal_global (mg:=mg) (by rw [x.glob]; exact h1.keeps hr.base) (mg_of C.X h1 hv) k) (noDbg_mem x.dbg hg)
theorem name_blt (C:Cx S) (x:ER S as T env nm sl l s.heap) (hr:HR S as T H s.heap) {n:Str} (hg:nm.lookup n=some .globalImplicit) {v:Value} (hn:nsIn S.K mainGlobals n=some none) (hv:bootBuiltins n=some v) (h':n≠"__name__") (k:Q v s):wpAny M A (eval (.Name n pos) env) Q E s:=by
  obtain⟨mg,mb,h1,h2,h3⟩:=C.ns
  refine Calls.Name_function_global x.kind (by unfold Env.kindOf; rw [x.names]; exact hg) (Calls.loadGlobal_builtin (mg:=mg) (mb:=mb) (by rw [x.glob]; exact h1.keeps hr.base) (mg_none_of C.X h1 hn) (by rw [x.blt]; exact h2.keeps hr.base) ((h3 n h').trans hv) k) (noDbg_mem x.dbg hg)
end
end Mine
namespace Mine
noncomputable def Ret (S:Sur) (as:As) (T:TS) (s:Shared) (H':Hp) (v:V) (Q:Value→Shared→Prop):Prop :=
  ∀ w h' tk as' T',Ext Nil as T s.heap as' T' h'→HR S as' T' H' h'→VR S.fa as' T' v w→Q w { s with heap:=h',toks:=tk }
noncomputable def RetU (S:Sur) (as:As) (T:TS) (s:Shared) (H':Hp) (Q:Unit→Shared→Prop):Prop :=
  ∀ h' tk as' T',Ext Nil as T s.heap as' T' h'→HR S as' T' H' h'→Q () { s with heap:=h',toks:=tk }
section
variable {S:Sur} {as as1:As} {T T1:TS} {H H':Hp} {h h' h1:Heap} {s:Shared} {v:V} {w:Value} {Q:Value→Shared→Prop} {A:Around} {E:Value→Shared→Prop}
theorem Ret.from {tk:Tok} (k:Ret S as T s H' v Q) (e:Ext Nil as T s.heap as1 T1 h1):Ret S as1 T1 { s with heap:=h1,toks:=tk } H' v Q :=
  fun w h' tk' as' T' e' hr vr=>k w h' tk' as' T' (e.trans e') hr vr
theorem RetU.from {tk:Tok} {Q:Unit→Shared→Prop} (k:RetU S as T s H' Q) (e:Ext Nil as T s.heap as1 T1 h1):RetU S as1 T1 { s with heap:=h1,toks:=tk } H' Q :=
  fun h' tk' as' T' e' hr=>k h' tk' as' T' (e.trans e') hr
theorem Ret.now (k:Ret S as T s H v Q) (hr:HR S as T H s.heap) (vr:VR S.fa as T v w):Q w s:=k w s.heap s.toks as T (.refl ..) hr vr
theorem Ret.tok (k:Ret S as T s H v Q) (hr:HR S as T H s.heap) (vr:VR S.fa as T v w) (tk:Tok):Q w { s with toks:=tk }:=k w s.heap tk as T (.refl ..) hr vr
theorem Ext.keep (k:∀ b o,h.get? b=some o→h'.get? b=some o):Ext Nil as T h as T h':=⟨.refl ..,fun b o _ _ e=>k b o e,fun b hb _=>hb.elim,fun b hb=>.inl hb⟩
theorem keep_push (o:Obj):∀ b q,h.get? b=some q→(h.push o).get? b=some q:=fun _ _ e=>Heap.get?_push_of_some o e
theorem size_none:h.get? h.objs.size=none:=by
  cases e:h.get? h.objs.size with
  | none=>rfl
  | some o=>exact absurd (Heap.lt_size e) (Nat.lt_irrefl _)
theorem new_im (hr:HR S as T H h) (k:∀ b o,h.get? b=some o→h'.get? b=some o) {a:Addr} {i:Im} (hi:ImAt h' a i) (hro:∀ ws,i≠.ro ws) :
    Ext Nil as T h as (fun b j=>T b j∨(b=a∧j=i)) h'∧HR S as (fun b j=>T b j∨(b=a∧j=i)) H h':=by
  have m:Mono as T as (fun b j=>T b j∨(b=a∧j=i)):=⟨fun _ _ e=>e,fun _ _ e=>.inl e⟩
  refine⟨⟨m,fun b o _ _ e=>k b o e,fun b hb _=>hb.elim,fun b hb=>.inl hb⟩,?_⟩
  have r:=hr.keep k
  refine⟨r.base,r.len,fun n o p e1 e2=>(hr.obj n o p e1 e2).keep m (k _) (fun d q _=>k _ q),r.nd,r.new,fun b j t=>?_,fun b j t=>.inl (hr.t0 b j t),fun b ws t=>?_,r.two,r.big⟩
  · rcases t with t | ⟨rfl,rfl⟩
    · exact r.im b j t
    · exact hi
  · rcases t with t | ⟨_,q⟩
    · exact hr.ro b ws t
    · exact absurd q.symm (hro ws)
theorem push_tup_k (hr:HR S as T H h) {l:List V} {ws:List Value} (hv:VRs S.fa as T l ws) (hl:l.length≤lim) {zg:Prop} (zk:∀ T',(Ext Nil as T h as T' (h.push { cls:=.type "tuple",data:=.seq ws.toArray }))→(HR S as T' H (h.push { cls:=.type "tuple",data:=.seq ws.toArray }))→(VR S.fa as T' (.tup l) (.ref h.objs.size))→zg):zg:=by
  obtain⟨e,r⟩:=new_im (a:=h.objs.size) (i:=.tup ws) hr (keep_push { cls:=.type "tuple",data:=.seq ws.toArray }) ⟨_,Heap.get?_push_size _ rfl,rfl,0,rfl⟩ (fun _ q=>by cases q)
  exact zk _ e r (.tup (.inr ⟨rfl,rfl⟩) hl (hv.mono e.mono))
theorem new_list_k (hr:HR S as T H h) (k:∀ b o,h.get? b=some o→h'.get? b=some o) {a:Addr} (hsz:h.objs.size≤a) {l:List V} {ws:List Value} {n:Nat} (ho:h'.get? a=some (lst ws n)) (hv:VRs S.fa as T l ws) (hl:l.length≤lim) {zg:Prop} (zk:(Ext Nil as T h (as++[(a,none)]) T h')→(HR S (as++[(a,none)]) T (H++[.list l]) h')→(VR S.fa (as++[(a,none)]) T (.loc H.length) (.ref a))→zg):zg:=by
  have ha:h.get? a=none:=by
    cases e:h.get? a with
    | none=>rfl
    | some o=>exact absurd (Heap.lt_size e) (Nat.not_lt.mpr hsz)
  have m:Mono as T (as++[(a,none)]) T:=⟨fun n q e=>getElem?_append_some e,fun _ _ e=>e⟩
  refine zk (⟨m,fun b o _ _ e=>k b o e,fun b hb _=>hb.elim,fun b hb=>?_⟩) (hr.alloc k (by simp) (by simpa using hsz) (.list ho hl (hv.mono m))) ?_
  · rw [owned_append] at hb
    rcases List.mem_append.mp hb with q | q
    · exact .inl q
    · simp [owned] at q; subst q; exact .inr ha
  · exact .loc (p:=(a,none)) (by rw [List.getElem?_append_right (by rw [hr.len]; exact Nat.le_refl _),hr.len,Nat.sub_self]; rfl)
theorem new_list (hr:HR S as T H h) (k:∀ b o,h.get? b=some o→h'.get? b=some o) {a:Addr} (hsz:h.objs.size≤a) {l:List V} {ws:List Value} {n:Nat} (ho:h'.get? a=some (lst ws n)) (hv:VRs S.fa as T l ws) (hl:l.length≤lim):Ext Nil as T h (as++[(a,none)]) T h'∧HR S (as++[(a,none)]) T (H++[.list l]) h'∧VR S.fa (as++[(a,none)]) T (.loc H.length) (.ref a):=new_list_k hr k hsz ho hv hl fun zh1 zh2 zh3=>⟨zh1,zh2,zh3⟩
theorem push_list_k (hr:HR S as T H h) {l:List V} {ws:List Value} (hv:VRs S.fa as T l ws) (hl:l.length≤lim) {zg:Prop} (zk:(Ext Nil as T h (as++[(h.objs.size,none)]) T (h.push { cls:=.type "list",data:=.seq ws.toArray }))→(HR S (as++[(h.objs.size,none)]) T (H++[.list l]) (h.push { cls:=.type "list",data:=.seq ws.toArray }))→(VR S.fa (as++[(h.objs.size,none)]) T (.loc H.length) (.ref h.objs.size))→zg):zg:=by
  obtain⟨zh1,zh2,zh3⟩:Ext Nil as T h (as++[(h.objs.size,none)]) T (h.push { cls:=.type "list",data:=.seq ws.toArray })∧HR S (as++[(h.objs.size,none)]) T (H++[.list l]) (h.push { cls:=.type "list",data:=.seq ws.toArray })∧VR S.fa (as++[(h.objs.size,none)]) T (.loc H.length) (.ref h.objs.size):=new_list (n:=0) hr (keep_push { cls:=.type "list",data:=.seq ws.toArray }) (Nat.le_refl _) (Heap.get?_push_size _ rfl) hv hl
  exact zk zh1 zh2 zh3
theorem VR.locE_k {n:Nat} (x:VR S.fa as T (.loc n) w) {zg:Prop} (zk:∀ p,(as[n]? = some p)→(w=.ref p.1)→zg):zg:=by
  cases x with | loc e=>exact zk _ e rfl
theorem HR.listAt_k (hr:HR S as T H h) {n:Nat} {l:List V} (hl:H[n]? = some (.list l)) (x:VR S.fa as T (.loc n) w) {zg:Prop} (zk:∀ a,∀ ws,∀ k,(w=.ref a)→(as[n]? = some (a,none))→(h.get? a=some (lst ws k))→(l.length≤lim)→(VRs S.fa as T l ws)→zg):zg:=by
  refine x.locE_k fun p e zq10=>?_
  subst zq10
  have:=hr.obj n _ p hl e
  cases this with
  | list e1 e2 e3=>exact zk _ _ _ rfl e e1 e2 e3
theorem HR.dictAt_k (hr:HR S as T H h) {n:Nat} {es:List (List Nat×V)} (hl:H[n]? = some (.dict es)) (x:VR S.fa as T (.loc n) w) {zg:Prop} (zk:∀ a,∀ ds,(w=.ref a)→(as[n]? = some (a,none))→(h.DictOf (strKind S.prog S.w) a ds)→(es.length≤1024)→(DR S as T es ds)→zg):zg:=by
  refine x.locE_k fun p e zq11=>?_
  subst zq11
  have:=hr.obj n _ p hl e
  cases this with
  | dict e1 e2 e3=>exact zk _ _ rfl e e1 e2 e3
theorem HR.instAt_k (hr:HR S as T H h) {n c:Nat} {fs:List (Nat×V)} (hl:H[n]? = some (.inst c fs)) (x:VR S.fa as T (.loc n) w) {zg:Prop} (zk:∀ a,∀ dx,∀ C,∀ f,(w=.ref a)→(as[n]? = some (a,some dx))→(c<5)→(S.ca[c]? = some C)→(h.get? a=some (instObj C dx))→(h.Ns1 dx f)→(FR S as T fs f)→zg):zg:=by
  refine x.locE_k fun p e zq12=>?_
  subst zq12
  have:=hr.obj n _ p hl e
  cases this with
  | inst e0 e1 e2 e3 e4=>exact zk _ _ _ _ rfl e e0 e1 e2 e3 e4
theorem HR.noT_list (hr:HR S as T H h) {a:Addr} {ws:List Value} {k:Nat} (e:h.get? a=some (lst ws k)) (ho:a∈owned as) (i:Im):¬ T a i:=fun t=>by
  have:=hr.im a i t
  cases i with
  | tup us=>obtain⟨o',e',c,_⟩:=this; rw [e] at e'; cases e'; simp [lst] at c
  | ro us=>obtain⟨o,q⟩:=hr.ro a us t; rw [hr.new a ho] at q; cases q
  | rng i j l=>obtain⟨t,u,v,e'⟩:=this; have e2:=e.symm.trans e'; simp [lst] at e2
theorem HR.noT_cls (hr:HR S as T H h) {a:Addr} {o:Obj} (e:h.get? a=some o) (h1:o.cls≠.type "tuple") (h2:o.cls≠.type "list") (h3:o.cls≠.type "range") (i:Im):¬ T a i:=fun t=>by
  have:=hr.im a i t
  cases i with
  | tup us=>obtain⟨o',e',c,_⟩:=this; rw [e] at e'; cases e'; exact h1 c
  | ro us=>obtain⟨o',e',c,_⟩:=this; rw [e] at e'; cases e'; exact h2 c
  | rng i j l=>obtain⟨t,u,v,e'⟩:=this; have e2:=e.symm.trans e'; cases e2; exact h3 rfl
theorem HR.noT_dict (hr:HR S as T H h) {a:Addr} {ds:List (Str×Value)} (e:h.DictOf (strKind S.prog S.w) a ds) (i:Im):¬ T a i:=by
  obtain⟨o,es,ep,q,x,_⟩:=e
  exact hr.noT_cls q (by rw [x.1]; decide) (by rw [x.1]; decide) (by rw [x.1]; decide) i
theorem Ext.upd {a:Addr} (ho:a∈owned as) (k:∀ b o,b≠a→h.get? b=some o→h'.get? b=some o):Ext Nil as T h as T h' :=
  ⟨.refl ..,fun b o n _ e=>k b o (fun q=>n (q▸ho)) e,fun b hb _=>hb.elim,fun b hb=>.inl hb⟩
theorem list_set (hr:HR S as T H h) {n:Nat} {l l':List V} {a:Addr} {ws ws':List Value} {k k':Nat} (hl:H[n]? = some (.list l)) (hp:as[n]? = some (a,none)) (e:h.get? a=some (lst ws k))
    (kp:∀ b o,b≠a→h.get? b=some o→h'.get? b=some o) (e':h'.get? a=some (lst ws' k')) (hl':l'.length≤lim) (hv:VRs S.fa as T l' ws'):Ext Nil as T h as T h'∧HR S as T (H.set n (.list l')) h':=by
  have ho:a∈owned as:=(mem_owned hp).1
  exact⟨.upd ho kp,hr.upd hp (List.getElem?_eq_some_iff.mp hl).1 (.head _) kp (.list e' hl' hv) (hr.noT_list e ho)⟩
theorem keepBut_update {a:Addr} {f:Obj→Obj}:∀ b o,b≠a→h.get? b=some o→(h.update a f).get? b=some o:=fun b o n e=>(Heap.get?_update_other h f (Ne.symm n)).trans e
theorem get_update_list {a:Addr} {ws ws':List Value} {k:Nat} {f:Array Value→Array Value} (e:h.get? a=some (lst ws k)) (hf:f ws.toArray=ws'.toArray):∃ k',(h.update a (Obj.mapSeq f)).get? a=some (lst ws' k'):=by
  have q:=IsL.update (h:=h) (l:=a) e f
  rw [hf] at q
  exact⟨_,q⟩
end
end Mine
namespace Mine
section
variable {S:Sur} {as as1:As} {T T1:TS} {H H':Hp} {h h' h1:Heap} {s:Shared} {v:V} {w:Value} {Q:Value→Shared→Prop} {A:Around} {E:Value→Shared→Prop}
theorem VR.handed (x:VR S.fa as T v w):handedIn w=true:=by cases x <;> rfl
theorem lim_size {n:Nat} (h:n≤lim):n≤sizeLine:=Nat.le_trans h (by decide)
theorem lim_63 {n:Nat} (h:n≤lim):(n:Int)<2 ^ 63:=by
  have:n≤1048576:=h
  omega
theorem find_ns_k {es:Array DictEntry} {x:Str} {u:Value} (hf:nsFind es x=some u) {zg:Prop} (zk:∀ e,(es.toList.find? (·.key.isStr x)=some e)→(e.val=u)→zg):zg:=by
  unfold nsFind findBy at hf
  rw [← Array.find?_toList] at hf
  obtain⟨e,h1,h2⟩:=Option.map_eq_some_iff.mp hf
  exact zk e h1 h2
theorem lookIn_some {od:Obj} {es:Array DictEntry} {ep:Nat} {x:Str} {u:Value} (hd:od.data=.dict es ep) (hf:nsFind es x=some u):lookIn x od=some (some u):=by
  refine find_ns_k hf fun e h1 zq13=>?_
  subst zq13
  unfold lookIn
  rw [hd]
  dsimp only
  rw [h1]
theorem lookIn_none {od:Obj} {es:Array DictEntry} {ep:Nat} {x:Str} (hd:od.data=.dict es ep) (hk:StrKeys es) (hf:nsFind es x=none):lookIn x od=some none:=by
  unfold nsFind findBy at hf
  rw [← Array.find?_toList,Option.map_eq_none_iff] at hf
  unfold lookIn
  rw [hd]
  dsimp only
  rw [hf,if_neg]
  intro q
  obtain⟨e,he,hr⟩:=List.any_eq_true.mp q
  obtain⟨n,t,hkey⟩:=hk e (Array.mem_toList_iff.mp he)
  rw [DictEntry.refKey,hkey] at hr
  cases hr
theorem inst_at_k {a dx C:Addr} {f:Str→Option Value} (h1:h.get? a=some (instObj C dx)) (h2:h.Ns1 dx f) {zg:Prop} (zk:∀ od,∀ es,∀ ep,(W.InstAt h a (instObj C dx) C (some od))→(od.data=.dict es ep)→(StrKeys es)→(∀ x,nsFind es x=f x)→zg):zg:=by
  obtain⟨o,es,ep,e,d,k,_,g⟩:=h2
  exact zk o es ep (⟨h1,rfl,rfl,e⟩) d k g
theorem getA_ok (C:Cx S) (hr:HR S as T H s.heap) {o:V} {a:Nat} (x:VR S.fa as T o w) (e:getA H o a=some v) {ex:Bool} (k:∀ u tk,VR S.fa as T v u→Q u { s with toks:=tk }):wpAny (model S.prog S.w) A (getAttr w (nmOf a) ex) Q E s:=by
  refine onN_some_k e fun n hx e1=>?_; subst hx; clear e; have e:=e1; clear e1
  refine atI_some_k e fun c fs hn e=>?_
  refine hr.instAt_k hn x fun p dx C' f zq14=>?_
  subst zq14
  intro hp c5 hC h1 h2 zq15
  obtain⟨h3,h4⟩:=zq15
  obtain⟨a22,u,hu,vr⟩:=h3 a v e
  obtain⟨ci,hci,ok⟩:=C.cls c C' c5 hC
  refine inst_at_k h1 h2 fun od es ep I d sk g=>?_
  obtain⟨at',ha,hn'⟩:=ok.attr a a22
  exact get_value (C.X.keeps hr.base) I ok.get.1 (findObj_own ok.hasDict ha hn' (lookIn_some d ((g _).trans hu))) vr.handed (k u _ vr)
theorem nmOf_inj {i j:Nat} (hi:i<22) (hj:j<22) (e:nmOf i=nmOf j):i=j:=by
  have h:∀ i,i<22→∀ j,j<22→nmOf i=nmOf j→i=j:=by decide +kernel
  exact h i hi j hj e
theorem nms_mem {i:Nat} (hi:i<22):nmOf i∈NMS:=by
  have h:∀ i,i<22→nmOf i∈NMS:=by decide +kernel
  exact h i hi
theorem within_nms {fs:List (Nat×V)} {f:Str→Option Value} (x:FR S as T fs f):Within f NMS:=by
  intro y hy
  cases e:f y with
  | none=>exact absurd e hy
  | some u =>
    obtain⟨i,hi,rfl,_⟩:=x.2 y u e
    have h:∀ i,i<22→nmOf i∈NMS:=by decide +kernel
    exact h i hi
theorem lookN_putN {α:Type} (i j:Nat) (v:α):∀ fs:List (Nat×α),lookN j (putN i v fs)=if j=i then some v else lookN j fs
  | []=>by
    simp only [putN_1,putN_2,lookN_1,lookN_2]
    by_cases h:j=i
    · subst h; simp
    · have:¬ i=j:=fun q=>h q.symm
      simp [h,this]
  | (k,u)::r=>by
    have ih:=lookN_putN i j v r
    by_cases hk:k=i
    · subst hk
      by_cases h:j=k
      · subst h; simp [putN_1,putN_2,lookN_1,lookN_2]
      · have:¬ k=j:=fun q=>h q.symm
        simp [putN_1,putN_2,lookN_1,lookN_2,h,this]
    · by_cases h:k=j
      · subst h; simp [putN_1,putN_2,lookN_1,lookN_2,hk]
      · simp [putN_1,putN_2,lookN_1,lookN_2,hk,h,ih]
theorem setattr_raw {a dx C':Addr} {f:Str→Option Value} {name:Str} {u:Value} {Q:Unit→Shared→Prop} (C:Cx S) (hb:∀ b o,S.h0.get? b=some o→s.heap.get? b=some o) (h1:s.heap.get? a=some (instObj C' dx)) (h2:s.heap.Ns1 dx f)
    (hs:findIn S.K (.ref C') "__setattr__" = some (some (.builtin "object.__setattr__"))) (hp:plainOver S.K C'=true) (ht:takerIn S.K C' name=some none) (hh:hasDictIn S.K C'=true) (hw:Within f NMS) (hn:name∈NMS)
    (k:∀ h' tk,h'.Ns1 dx (fun x=>if x=name then some u else f x)→Heap.SameBut dx s.heap h'→Q () { s with heap:=h',toks:=tk }):wpAny (model S.prog S.w) A (setAttr (.ref a) name u) Q E s:=by
  refine inst_at_k h1 h2 fun od es ep I d sk g=>?_
  have X:=C.X.keeps hb
  refine set_plain X I hs (osa_open (s:={ s with toks:=s.toks+1 }) X I hp ht fun b=>?_)
  obtain⟨cd,hc,hd'⟩:=any_some hh
  refine wpAny_bind (wpAny_pure (wpAny_bind (wpAny_bind (wpAny_loadPart h1 (wpAny_bind (Looks.here (s:={ s with toks:=s.toks+1 }) (looks_clsIn X hc) ?_))))))
  rw [hd']
  refine wpAny_pure (a:=some dx) (wpAny_bind (wpAny_pure (wpAny_bind ?_)))
  refine wpAny_nsSet1EFk (s:={ s with toks:=s.toks+1 }) h2 fun h' n' sb _=>?_
  obtain⟨oD,esD,epD,hoD,hdD,hcD⟩:=n'.count (ns:=name::NMS) (Within.cons name u hw)
  refine wpAny_bind (wpAny_lookBehind hoD (by rw [hdD]; exact pastItsLine_dict (Nat.le_trans hcD (by rw [List.length_cons,show NMS.length=22 from by decide +kernel]; decide))) ?_)
  exact wpAny_pure (k h' _ n' sb)
theorem setA_ok (C:Cx S) (hr:HR S as T H s.heap) {o:V} {a:Nat} {u:Value} {Q:Unit→Shared→Prop} (x:VR S.fa as T o w) (y:VR S.fa as T v u) (ha:a<22) (e:setA H o a v=some H') (k:RetU S as T s H' Q):wpAny (model S.prog S.w) A (setAttr w (nmOf a) u) Q E s:=by
  refine onN_some_k e fun n hx e1=>?_; subst hx; clear e; have e:=e1; clear e1
  refine atI_some_k e fun c fs hn e=>?_
  cases e
  refine hr.instAt_k hn x fun p dx C' f zq16=>?_
  subst zq16
  intro hp c5 hC h1 h2 h3
  obtain⟨ci,hci,ok⟩:=C.cls c C' c5 hC
  have dxo:dx∈owned as:=(mem_owned hp).2 dx rfl
  have ndx:∀ i,¬ T dx i:=by
    obtain⟨o,es,ep,q,d,_⟩:=id h2
    intro i t
    have:=hr.im dx i t
    cases i with
    | tup us=>obtain⟨o',e',c,_,d'⟩:=this; rw [q] at e'; cases e'; rw [d] at d'; cases d'
    | ro us=>obtain⟨o',e',c,_,d'⟩:=this; rw [q] at e'; cases e'; rw [d] at d'; cases d'
    | rng i j l=>obtain⟨t,u,v,e'⟩:=this; have e2:=q.symm.trans e'; cases e2; cases d
  have pne:p≠dx:=by
    intro q
    obtain⟨o,es,ep,q',d,_⟩:=id h2
    rw [← q,h1] at q'; cases q'; cases d
  refine setattr_raw C hr.base h1 h2 ok.set ok.over (ok.take a ha) ok.hasDict (within_nms h3) (nms_mem ha) fun h' tk n' sb=>?_
  have kp:∀ b o,b≠dx→s.heap.get? b=some o→h'.get? b=some o:=fun b o hb e=>(sb.2 b hb).trans e
  refine k h' tk as T (.upd dxo kp) (hr.upd hp (List.getElem?_eq_some_iff.mp hn).1 (.tail _ (.head _)) kp (.inst c5 hC (kp _ _ pne h1) n' ⟨fun i v' e=>?_,fun z w' e=>?_⟩) ndx)
  · rw [lookN_putN] at e
    by_cases hi:i=a
    · subst hi; simp at e; subst e
      exact⟨ha,u,by simp,y⟩
    · rw [if_neg hi] at e
      obtain⟨i22,w'',e1,e2⟩:=h3.1 i v' e
      refine⟨i22,w'',?_,e2⟩
      show(if nmOf i=nmOf a then some u else f (nmOf i))=some w''
      rw [if_neg (fun q=>hi (nmOf_inj i22 ha q))]; exact e1
  · by_cases hz:z=nmOf a
    · exact⟨a,ha,hz,by rw [lookN_putN]; simp⟩
    · have e:(if z=nmOf a then some u else f z)=some w':=e
      rw [if_neg hz] at e
      obtain⟨i,hi,hz',hl⟩:=h3.2 z w' e
      refine⟨i,hi,hz',?_⟩
      rw [lookN_putN]
      by_cases q:i=a
      · simp [q]
      · rw [if_neg q]; exact hl
theorem meth_ok (C:Cx S) (hr:HR S as T H s.heap) {n c:Nat} {fs:List (Nat×V)} {ci:CI} {m k:Nat} {pl:Sem Bool} {Q:Value×List Value→Shared→Prop} (x:VR S.fa as T (.loc n) w) (hn:H[n]? = some (.inst c fs)) (hci:S.P.cls[c]? = some ci) (hm:lookN m ci.meths=some k)
    (q:∀ a,S.fa[k]? = some a→Q (.ref a,[w]) s):wpAny (model S.prog S.w) A (getMethod w (mmOf m) pl) Q E s:=by
  refine hr.instAt_k hn x fun p dx C' f zq17=>?_
  subst zq17
  intro hp c5 hC h1 h2 h3
  obtain⟨ci',hci',ok⟩:=C.cls c C' c5 hC
  rw [hci] at hci'; cases hci'
  refine inst_at_k h1 h2 fun od es ep I d sk g=>?_
  obtain⟨a,ha,hf,ht⟩:=ok.meth m k hm
  have hno:f (mmOf m)=none:=by
    cases e:f (mmOf m) with
    | none=>rfl
    | some u =>
      obtain⟨i,hi,q,_⟩:=h3.2 _ _ e
      have:=ok.apart m k i hm hi
      rw [← q] at this
      simp at this
  exact method_fn (C.X.keeps hr.base) I ok.get.1 ok.get.2 hf ht (by show(lookIn (mmOf m) od).map _=_; rw [lookIn_none d sk ((g _).trans hno)]; rfl) (q a ha)
end
end Mine
namespace Mine
section
variable {S:Sur} {as as1:As} {T T1:TS} {H H':Hp} {h h' h1:Heap} {s:Shared} {v:V} {w:Value} {Q:Value→Shared→Prop} {A:Around} {E:Value→Shared→Prop}
theorem ret_list {n:Nat} {l l':List V} {a:Addr} {ws ws':List Value} {k k':Nat} {r:V} {u:Value} (hr:HR S as T H s.heap) (hl:H[n]? = some (.list l)) (hp:as[n]? = some (a,none)) (e:s.heap.get? a=some (lst ws k))
    (kp:∀ b o,b≠a→s.heap.get? b=some o→h'.get? b=some o) (e':h'.get? a=some (lst ws' k')) (hl':l'.length≤lim) (hv:VRs S.fa as T l' ws') (vr:VR S.fa as T r u) (q:Ret S as T s (H.set n (.list l')) r Q) (tk:Tok):Q u { s with heap:=h',toks:=tk }:=by
  obtain⟨x1,x2⟩:=list_set hr hl hp e kp e' hl' hv
  exact q u h' tk as T x1 x2 vr
theorem append_ok {n:Nat} {l:List V} {x:V} {u:Value} (hr:HR S as T H s.heap) (vn:VR S.fa as T (.loc n) w) (vx:VR S.fa as T x u) (hl:H[n]? = some (.list l)) (hlen:l.length<lim) (q:Ret S as T s (H.set n (.list (l++[x]))) .none Q) :
    wpAny (model S.prog S.w) A (call (.builtin "list.append") [w,u]) Q E s:=by
  refine hr.listAt_k hl vn fun a ws k zq18=>?_
  subst zq18
  intro hp e hz hv
  have hwl:=hv.length
  refine append_at (its:=ws.toArray) (n:=k) e (fun h' sb e'=>?_) (by rw [List.size_toArray,hwl]; exact lim_size hz)
  exact ret_list (ws':=ws++[u]) (k':=k+1) hr hl hp e (fun b o nb q=>(sb.2 b nb).trans q) (by rw [e']; simp [lst]) (by simp; exact hlen) (hv.append (.cons vx .nil)) .none q _
theorem pop_ok {n:Nat} {l:List V} {x:V} (hr:HR S as T H s.heap) (vn:VR S.fa as T (.loc n) w) (hl:H[n]? = some (.list l)) (hx:l.getLast? = some x) (q:Ret S as T s (H.set n (.list l.dropLast)) x Q) :
    wpAny (model S.prog S.w) A (call (.builtin "list.pop") [w]) Q E s:=by
  refine hr.listAt_k hl vn fun a ws k zq19=>?_
  subst zq19
  intro hp e hz hv
  have hwl:=hv.length
  rw [List.getLast?_eq_getElem?] at hx
  obtain⟨u,hu,vu⟩:=hv.get _ hx
  have hy:ws.toArray[ws.toArray.size - 1]? = some u:=by simp [hwl,hu]
  obtain⟨k',e'⟩:=get_update_list (ws':=ws.dropLast) (f:=fun xs=>xs.eraseIdxIfInBounds (ws.toArray.size - 1)) e (by
    apply Array.toList_inj.mp
    have hlt:ws.length - 1<ws.length:=by
      have:=(List.getElem?_eq_some_iff.mp hx).1; omega
    simp [Array.eraseIdxIfInBounds,hlt,List.eraseIdx_eq_dropLast,List.dropLast_eq_take])
  refine call_meets PySem.F.slot_list_pop ⟨_,e,rfl⟩ PySem.F.entry_list_pop (PySem.F.args_list_pop_1 _) (PySem.MeetsSeq.list_pop_last a ws.toArray k u hy (by rw [List.size_toArray,hwl]; exact lim_size hz)) ⟨e,?_⟩
  have hd:VRs S.fa as T l.dropLast ws.dropLast:=by
    rw [List.dropLast_eq_take,List.dropLast_eq_take,hwl]; exact hv.take _
  exact ret_list hr hl hp e keepBut_update e' (by simp; exact Nat.not_lt.mp (lin [_,_] (.c 1 (.v 0) (.v 1) (.c 1 (.a (.a (.v 1) (.n 1)) (.n 1)) (.v 0) .z)) rfl hz)) hd vu q _
theorem extend_ok {n j:Nat} {l m:List V} {u:Value} (hr:HR S as T H s.heap) (vn:VR S.fa as T (.loc n) w) (vj:VR S.fa as T (.loc j) u) (hl:H[n]? = some (.list l)) (hm:H[j]? = some (.list m)) (hlen:l.length+m.length<lim)
    (q:Ret S as T s (H.set n (.list (l++m))) .none Q):wpAny (model S.prog S.w) A (call (.builtin "list.extend") [w,u]) Q E s:=by
  refine hr.listAt_k hl vn fun a ws k zq20=>?_
  subst zq20
  intro hp e hz hv
  refine hr.listAt_k hm vj fun b us k2 zq21=>?_
  subst zq21
  intro hp2 e2 hz2 hv2
  have hwl:=hv.length
  have hul:=hv2.length
  obtain⟨k',e'⟩:=get_update_list (ws':=ws++us) (f:=fun x=>x++us.toArray) e (by simp)
  have hsum:ws.toArray.size+us.toArray.size≤sizeLine:=by rw [List.size_toArray,List.size_toArray,hwl,hul]; exact lim_size (Nat.le_of_lt hlen)
  refine call_meets PySem.F.slot_list_extend ⟨_,e,rfl⟩ PySem.F.entry_list_extend (PySem.F.args_list_extend_2 _ _) (PySem.AutoSeq1.list_extend_list_list_0 a ws.toArray k b us.toArray k2 ?_ (by exact Nat.not_lt.mp (lin [_,_,_] (.c 1 (.a (.v 0) (.v 1)) (.v 2) (.c 1 (.a (.v 2) (.n 1)) (.v 0) .z)) rfl hsum)) (by exact Nat.not_lt.mp (lin [_,_,_] (.c 1 (.a (.v 0) (.v 1)) (.v 2) (.c 1 (.a (.a (.v 2) (.n 1)) (.n 1)) (.a (.v 0) (.v 1)) .z)) rfl hsum))) ⟨e,e2,?_⟩
  · intro q'
    simp only [Bool.and_eq_true,Builtin.List.listTooLong,decide_eq_true_eq] at q'
    have:=q'.2
    exact lin [_,_,_] (.c 1 (.a (.v 0) (.v 1)) (.v 2) (.c 1 (.a (.v 2) (.n 1)) (.a (.v 0) (.v 1)) .z)) rfl hsum q'.2
  · exact ret_list hr hl hp e keepBut_update e' (by simp; exact Nat.not_lt.mp (lin [_,_,_] (.c 1 (.a (.a (.v 0) (.v 1)) (.n 1)) (.v 2) (.c 1 (.a (.v 2) (.n 1)) (.a (.v 0) (.v 1)) .z)) rfl hlen)) (hv.append hv2) .none q _
theorem reverse_ok {n:Nat} {l:List V} (hr:HR S as T H s.heap) (vn:VR S.fa as T (.loc n) w) (hl:H[n]? = some (.list l)) (q:Ret S as T s (H.set n (.list l.reverse)) .none Q) :
    wpAny (model S.prog S.w) A (call (.builtin "list.reverse") [w]) Q E s:=by
  refine hr.listAt_k hl vn fun a ws k zq22=>?_
  subst zq22
  intro hp e hz hv
  have hwl:=hv.length
  obtain⟨k',e'⟩:=get_update_list (ws':=ws.reverse) (f:=fun x=>x.reverse) e (by simp)
  refine call_meets PySem.F.slot_list_reverse ⟨_,e,rfl⟩ PySem.F.entry_list_reverse (PySem.F.args_list_reverse_1 _) (PySem.AutoSeq1.list_reverse_list_0 a ws.toArray k (by rw [List.size_toArray,hwl]; exact lim_size hz)) ⟨e,?_⟩
  exact ret_list hr hl hp e keepBut_update e' (by simpa using hz) hv.reverse .none q _
theorem ret_new {l:List V} {ws:List Value} {n:Nat} (hr:HR S as T H s.heap) (k:∀ b o,s.heap.get? b=some o→h'.get? b=some o) (ho:h'.get? s.heap.objs.size=some (lst ws n)) (hv:VRs S.fa as T l ws) (hl:l.length≤lim)
    (q:Ret S as T s (H++[.list l]) (.loc H.length) Q) (tk:Tok):Q (.ref s.heap.objs.size) { s with heap:=h',toks:=tk }:=by
  refine new_list_k hr k (Nat.le_refl _) ho hv hl fun x1 x2 x3=>?_
  exact q _ h' tk _ _ x1 x2 x3
theorem addList_ok {i j:Nat} {l m:List V} {u:Value} (hr:HR S as T H s.heap) (vn:VR S.fa as T (.loc i) w) (vj:VR S.fa as T (.loc j) u) (hl:H[i]? = some (.list l)) (hm:H[j]? = some (.list m)) (hlen:l.length+m.length≤lim)
    (q:Ret S as T s (H++[.list (l++m)]) (.loc H.length) Q):wpAny (model S.prog S.w) A (binaryOp .Add w u) Q E s:=by
  refine hr.listAt_k hl vn fun a ws k zq23=>?_
  subst zq23
  intro hp e hz hv
  refine hr.listAt_k hm vj fun b us k2 zq24=>?_
  subst zq24
  intro hp2 e2 hz2 hv2
  have hsum:ws.toArray.size+us.toArray.size≤sizeLine:=by rw [List.size_toArray,List.size_toArray,hv.length,hv2.length]; exact lim_size hlen
  refine concat_meets ⟨_,e,rfl⟩ ⟨_,e2,rfl⟩ noFill_list_add seq_list_add PySem.F.slot_list_add PySem.F.entry_list_add (PySem.F.args_list_add_2 _ _) (list_addW a b ws.toArray us.toArray k k2 none none #[] #[] hsum) ⟨e,e2,?_⟩
  rw [show ws.toArray++us.toArray=(ws++us).toArray by simp]
  exact ret_new hr (keep_push (lst (ws++us) 0)) (Heap.get?_push_size _ rfl) (hv.append hv2) (by simpa using hlen) q _
theorem tupE_k {l:List V} (hr:HR S as T H h) (x:VR S.fa as T (.tup l) w) {zg:Prop} (zk:∀ a,∀ ws,(w=.ref a)→(h.IsTuple a ws.toArray)→(l.length≤lim)→(VRs S.fa as T l ws)→zg):zg:=by
  cases x with
  | tup t hl hv=>exact zk _ _ rfl (hr.im _ _ t) hl hv
theorem listTup_ok {l:List V} (hr:HR S as T H s.heap) (vn:VR S.fa as T (.tup l) w) (q:Ret S as T s (H++[.list l]) (.loc H.length) Q):wpAny (model S.prog S.w) A (call (.type "list") [w]) Q E s:=by
  refine tupE_k hr vn fun a ws zq26=>?_
  subst zq26
  intro zq27 hz hv
  obtain⟨o,e,c,n,d⟩:=zq27
  exact call_list_seq (hsz:=by rw [List.size_toArray,hv.length]; exact lim_size hz) a (.inr rfl) e c d fun h' c' hk hD=>ret_new hr hk hD hv hz q _
theorem item_list_ok {n:Nat} {l:List V} {i:Int} {t:Tok} {x:V} (hr:HR S as T H s.heap) (vn:VR S.fa as T (.loc n) w) (hl:H[n]? = some (.list l)) (hi:0≤i) (hx:l[i.toNat]? = some x) (q:∀ u,VR S.fa as T x u→Q u s) :
    wpAny (model S.prog S.w) A (getItem w (.int i t)) Q E s:=by
  refine hr.listAt_k hl vn fun a ws k zq28=>?_
  subst zq28
  intro hp e hz hv
  obtain⟨u,hu,vu⟩:=hv.get _ hx
  have h1:=(List.getElem?_eq_some_iff.mp hx).1
  exact wpAny_getItem_list ⟨_,e,rfl,k,rfl⟩ hi (by have:=lim_63 hz; omega) (by simpa using hu) (q u vu)
theorem item_tup_ok {l:List V} {i:Int} {t:Tok} {x:V} (hr:HR S as T H s.heap) (vn:VR S.fa as T (.tup l) w) (hi:0≤i) (hx:l[i.toNat]? = some x) (q:∀ u,VR S.fa as T x u→Q u s) :
    wpAny (model S.prog S.w) A (getItem w (.int i t)) Q E s:=by
  refine tupE_k hr vn fun a ws zq29=>?_
  subst zq29
  intro e hz hv
  obtain⟨u,hu,vu⟩:=hv.get _ hx
  have h1:=(List.getElem?_eq_some_iff.mp hx).1
  have h2:=lim_63 hz
  refine getItem_tuple (j:=i.toNat) e (by omega) (by omega) ?_ (by simpa using hu) (q u vu)
  unfold seqIndex?
  rw [List.size_toArray,hv.length]
  simp only [show ¬ i<0 by omega,if_false]
  rw [if_pos (by simp; omega)]
theorem setItem_list_ok {n:Nat} {l:List V} {i:Int} {t:Tok} {x:V} {u:Value} {Q:Unit→Shared→Prop} (hr:HR S as T H s.heap) (vn:VR S.fa as T (.loc n) w) (vx:VR S.fa as T x u) (hl:H[n]? = some (.list l)) (hi:0≤i) (hx:i.toNat<l.length)
    (q:RetU S as T s (H.set n (.list (l.set i.toNat x))) Q):wpAny (model S.prog S.w) A (setItem w (.int i t) u) Q E s:=by
  refine hr.listAt_k hl vn fun a ws k zq30=>?_
  subst zq30
  intro hp e hz hv
  have hwl:=hv.length
  refine ki_setAt e hi (by have:=lim_63 hz; omega) (by rw [List.size_toArray,hwl]; omega) ?_
  obtain⟨k',e'⟩:=get_update_list (ws':=ws.set i.toNat u) (f:=fun x=>x.setIfInBounds i.toNat u) e (by apply Array.toList_inj.mp; simp)
  obtain⟨x1,x2⟩:=list_set (l':=l.set i.toNat x) hr hl hp e keepBut_update e' (by simpa using hz) (hv.set _ vx)
  exact q _ _ as T x1 x2
theorem fdiv_pos {i j:Int} (h:0<j):Int.fdiv i j=i / j:=Int.fdiv_eq_ediv_of_nonneg _ (Int.le_of_lt h)
theorem fmod_pos {i j:Int} (h:0<j):Int.fmod i j=i % j:=Int.fmod_eq_emod_of_nonneg _ (Int.le_of_lt h)
end
end Mine
namespace Mine
section
variable {S:Sur} {as as1:As} {T T1:TS} {H H':Hp} {h h' h1:Heap} {s:Shared} {v:V} {w:Value} {Q:Value→Shared→Prop} {A:Around} {E:Value→Shared→Prop}
theorem strE_k {x:List Nat} (h:VR S.fa as T (.str x) w) {zg:Prop} (zk:∀ t,(w=.str ⟨x.toArray⟩ t)→(x.length≤lim)→zg):zg:=by
  cases h with | str _ t hl=>exact zk t rfl hl
theorem strE {x:List Nat} (h:VR S.fa as T (.str x) w):∃ t,w=.str ⟨x.toArray⟩ t∧x.length≤lim:=strE_k h fun t zh1 zh2=>⟨t,zh1,zh2⟩
theorem intE {i:Int} (h:VR S.fa as T (.int i) w):∃ t,w=.int i t:=by
  cases h with | int _ t=>exact⟨t,rfl⟩
theorem boolE {b:Bool} (h:VR S.fa as T (.bool b) w):w=.bool b:=by cases h; rfl
theorem noneE (h:VR S.fa as T .none w):w=.none:=by cases h; rfl
theorem small_div {i j:Int} (h1:0<j) (h2:j<1152921504606846976):Builtin.divisionGoesByPylong i j=false:=by
  unfold Builtin.divisionGoesByPylong
  dsimp only
  have hj:¬ (j == 0)=true:=by intro q; have:=beq_iff_eq.mp q; omega
  have hlog:j.natAbs.log2<61:=(Nat.log2_lt (by omega)).mpr (by omega)
  have:¬ (if(j == 0)=true then 0 else j.natAbs.log2 / 30+1) > 300:=by rw [if_neg hj]; omega
  rw [decide_eq_false this]; rfl
theorem small_bits {i:Int} (h:i.natAbs<1152921504606846976):Builtin.Int.intBits i≤62:=by
  unfold Builtin.Int.intBits
  by_cases h0:i=0
  · subst h0; decide
  · have hlog:i.natAbs.log2<60:=(Nat.log2_lt (by omega)).mpr (by omega)
    first | (split <;> omega) | omega | (simp; omega)
theorem small_mul {i j:Int} (h:i.natAbs<1152921504606846976):IntMulOk i j:=by
  have:=small_bits h
  unfold IntMulOk
  have h1:¬ Builtin.Int.intBits i > shortFactorBits:=by show ¬ _ > 64; omega
  rw [decide_eq_false h1]
  simp
theorem addTup_ok {l m:List V} {u:Value} (hr:HR S as T H s.heap) (vn:VR S.fa as T (.tup l) w) (vj:VR S.fa as T (.tup m) u) (hlen:l.length+m.length≤lim) (q:Ret S as T s H (.tup (l++m)) Q):wpAny (model S.prog S.w) A (binaryOp .Add w u) Q E s:=by
  refine tupE_k hr vn fun a ws zq31=>?_
  subst zq31
  intro ht hz hv
  refine tupE_k hr vj fun b us zq32=>?_
  subst zq32
  intro hb hz2 hv2
  obtain⟨⟨cls,dd,data,sl⟩,ho,hc,n,hd⟩:=id ht
  obtain⟨⟨cls2,dd2,data2,sl2⟩,ho2,hc2,n2,hd2⟩:=id hb
  simp only at hc hd hc2 hd2
  subst hc hd hc2 hd2
  by_cases hw:ws=[]
  · refine concat_meets ⟨_,ho,rfl⟩ ⟨_,ho2,rfl⟩ noFill_tuple_add seq_tuple_add PySem.F.slot_tuple_add PySem.F.entry_tuple_add (PySem.F.args_tuple_add_2 _ _)
      (tuple_addW0 a b ws.toArray us.toArray n n2 dd dd2 sl sl2 (by simp [hw])) ⟨ho,ho2,?_⟩
    have:l=[]:=List.length_eq_zero_iff.mp (by rw [← hv.length,hw]; rfl)
    subst this
    exact Ret.now q hr (by simpa using vj)
  · by_cases hu:us=[]
    · refine concat_meets ⟨_,ho,rfl⟩ ⟨_,ho2,rfl⟩ noFill_tuple_add seq_tuple_add PySem.F.slot_tuple_add PySem.F.entry_tuple_add (PySem.F.args_tuple_add_2 _ _)
        (tuple_addW1 a b ws.toArray us.toArray n n2 dd dd2 sl sl2 (by simpa using hw) (by simp [hu])) ⟨ho,ho2,?_⟩
      have:m=[]:=List.length_eq_zero_iff.mp (by rw [← hv2.length,hu]; rfl)
      subst this
      exact Ret.now q hr (by simpa using vn)
    · refine concat_meets ⟨_,ho,rfl⟩ ⟨_,ho2,rfl⟩ noFill_tuple_add seq_tuple_add PySem.F.slot_tuple_add PySem.F.entry_tuple_add (PySem.F.args_tuple_add_2 _ _)
        (tuple_addW2 a b ws.toArray us.toArray n n2 dd dd2 sl sl2 (by simpa using hw) (by simpa using hu) (by rw [List.size_toArray,List.size_toArray,hv.length,hv2.length]; exact lim_size hlen)) ⟨ho,ho2,?_⟩
      rw [show ws.toArray++us.toArray=(ws++us).toArray by simp]
      refine push_tup_k hr (hv.append hv2) (by simpa using hlen) fun T' x1 x2 x3=>?_
      exact q _ _ _ _ _ x1 x2 x3
theorem str_app (x y:List Nat):(⟨x.toArray⟩:Str)++(⟨y.toArray⟩:Str)=(⟨(x++y).toArray⟩:Str):=by
  show(⟨x.toArray++y.toArray⟩:Str)=_
  simp
theorem str_len (x:List Nat):(⟨x.toArray⟩:Str).length=x.length:=by
  show x.toArray.size=_
  simp
theorem repL_length {α:Type} (l:List α):∀ n,(repL l n).length=n * l.length
  | 0=>by simp [repL]
  | n+1=>by rw [repL,List.length_append,repL_length l n,Nat.succ_mul]; exact lnq [_,_] (.a (.v 0) (.v 1)) (.a (.v 1) (.v 0)) rfl
theorem foldl_rep {α:Type} (l:List α):∀(n:Nat) (acc:List α),List.foldl (fun x1 x2=>x1++x2) acc.toArray (List.replicate n l.toArray)=(acc++repL l n).toArray
  | 0,acc=>by simp [repL]
  | n+1,acc=>by
    rw [List.replicate_succ,List.foldl_cons,show acc.toArray++l.toArray=(acc++l).toArray by simp,foldl_rep l n (acc++l),repL,List.append_assoc]
theorem mul_okS {x:List Nat} {j:Int} (h0:0≤j) (h1:x.length≤1024) (h2:j≤1024):MulOk ⟨x.toArray⟩ j:=by
  refine⟨by simp; omega,fun a b=>?_,fun a b=>?_⟩
  · rw [str_len]
    have:(1024:Int)≤(2 ^ 63 - 1) / j:=by
      rw [Int.le_ediv_iff_mul_le (by omega)]
      omega
    omega
  · rw [str_len]
    unfold Builtin.Str.tooLong
    have h3:j.toNat≤1024:=by omega
    have:=Nat.mul_le_mul h1 h3
    have h4:x.length * j.toNat≤sizeLine:=Nat.le_trans this (by decide)
    simp; exact Nat.not_lt.mp (lin [_,_] (.c 1 (.v 0) (.v 1) (.c 1 (.a (.v 1) (.n 1)) (.v 0) .z)) rfl h4)
theorem mul_txt (x:List Nat) {j:Int} (h0:0≤j):Txt.mul ⟨x.toArray⟩ j=(⟨(repL x j.toNat).toArray⟩:Str):=by
  unfold Txt.mul
  by_cases h1:j<1
  · rw [if_pos h1]
    have:j.toNat=0:=by omega
    rw [this]; rfl
  · rw [if_neg h1]
    split
    · rename_i hc
      rw [Bool.or_eq_true] at hc
      rcases hc with hc | hc
      · have:j=1:=beq_iff_eq.mp hc
        subst this
        simp [repL]
      · rw [str_len] at hc
        have:x=[]:=List.length_eq_zero_iff.mp (beq_iff_eq.mp hc)
        subst this
        have:repL ([]:List Nat) j.toNat=[]:=List.length_eq_zero_iff.mp (by rw [repL_length]; simp)
        rw [this]
    · have:=foldl_rep x j.toNat []
      simp only [List.nil_append] at this
      rw [← this]
theorem addV_ok {a b r:V} {wa wb:Value} (e:addV a b H=some (r,H')) (hr:HR S as T H s.heap) (va:VR S.fa as T a wa) (vb:VR S.fa as T b wb) (q:Ret S as T s H' r Q):wpAny (model S.prog S.w) A (binaryOp .Add wa wb) Q E s:=by
  cases a with
  | int i =>
    refine onI_some_k e fun j hx e1=>?_; subst hx; clear e; have e:=e1; clear e1
    cases e
    obtain⟨t,rfl⟩:=intE va; obtain⟨u,rfl⟩:=intE vb
    exact add_int (q.tok hr (.int _ _) _)
  | str x =>
    refine onS_some_k e fun y hx e1=>?_; subst hx; clear e; have e:=e1; clear e1
    obtain⟨hl,e⟩:=gd_some e
    cases e
    refine strE_k va fun t zq34=>?_
    subst zq34
    intro h1; obtain⟨u,rfl,h2⟩:=strE vb
    refine SBL.add (fun t' k _=>?_) (by rw [str_len,str_len]; exact lim_size hl)
    rw [str_app]
    exact q.tok hr (.str _ _ (by rw [List.length_append]; exact hl)) _
  | tup l =>
    refine onT_some_k e fun m hx e1=>?_; subst hx; clear e; have e:=e1; clear e1
    obtain⟨hl,e⟩:=gd_some e
    cases e
    exact addTup_ok hr va vb hl q
  | loc i =>
    refine onN_some_k e fun j hx e1=>?_; subst hx; clear e; have e:=e1; clear e1
    refine atL_some_k e fun l h1 e=>?_
    refine atL_some_k e fun m h2 e=>?_
    obtain⟨hl,e⟩:=gd_some e
    cases e
    exact addList_ok hr va vb h1 h2 hl q
  | _=>first | exact ff e | exact nn e | cases e
theorem mulV_ok {a b r:V} {wa wb:Value} (e:mulV a b H=some (r,H')) (hr:HR S as T H s.heap) (va:VR S.fa as T a wa) (vb:VR S.fa as T b wb) (q:Ret S as T s H' r Q):wpAny (model S.prog S.w) A (binaryOp .Mult wa wb) Q E s:=by
  cases a with
  | int i =>
    refine onI_some_k e fun j hx e1=>?_; subst hx; clear e; have e:=e1; clear e1
    obtain⟨hl,e⟩:=gd_some e
    cases e
    obtain⟨t,rfl⟩:=intE va; obtain⟨u,rfl⟩:=intE vb
    exact mul_int (q.tok hr (.int _ _) _) (small_mul hl.1)
  | str x =>
    refine onI_some_k e fun j hx e1=>?_; subst hx; clear e; have e:=e1; clear e1
    obtain⟨hl,e⟩:=gd_some e
    cases e
    refine strE_k va fun t zq36=>?_
    subst zq36
    intro h1; obtain⟨u,rfl⟩:=intE vb
    refine SB.mul (mul_okS hl.1 hl.2.1 hl.2.2) fun t' k=>?_
    rw [mul_txt x hl.1]
    refine q.tok hr (.str _ _ ?_) _
    rw [repL_length]
    have:j.toNat≤1024:=by omega
    exact Nat.le_trans (Nat.mul_le_mul this hl.2.1) (by decide)
  | _=>first | exact ff e | exact nn e | cases e
theorem bin_ok {op:BOp} {o:Operator} {a b r:V} {wa wb:Value} (e:binV op a b H=some (r,H')) (c:opIs op o=true) (hr:HR S as T H s.heap) (va:VR S.fa as T a wa) (vb:VR S.fa as T b wb) (q:Ret S as T s H' r Q):wpAny (model S.prog S.w) A (binaryOp o wa wb) Q E s:=by
  cases op with
  | add=>cases o <;> first | (cases c; done) | exact addV_ok e hr va vb q
  | mul=>cases o <;> first | (cases c; done) | exact mulV_ok e hr va vb q
  | sub =>
    refine onI_some_k e fun i hx e1=>?_; subst hx; clear e; have e:=e1; clear e1
    refine onI_some_k e fun j hx e1=>?_; subst hx; clear e; have e:=e1; clear e1
    cases e
    obtain⟨t,rfl⟩:=intE va; obtain⟨u,rfl⟩:=intE vb
    cases o <;> first | (cases c; done) | exact sub_int (q.tok hr (.int _ _) _)
  | fdiv =>
    refine onI_some_k e fun i hx e1=>?_; subst hx; clear e; have e:=e1; clear e1
    refine onI_some_k e fun j hx e1=>?_; subst hx; clear e; have e:=e1; clear e1
    obtain⟨hl,e⟩:=gd_some e
    cases e
    obtain⟨t,rfl⟩:=intE va; obtain⟨u,rfl⟩:=intE vb
    have:wpAny (model S.prog S.w) A (binaryOp .FloorDiv (.int i t) (.int j u)) Q E s:=by
      refine floordiv_int (Int.ne_of_gt hl.1) ?_ (.inl (small_div hl.1 hl.2.2))
      rw [fdiv_pos hl.1]
      exact q.tok hr (.int _ _) _
    cases o <;> first | (cases c; done) | exact this
  | mod =>
    refine onI_some_k e fun i hx e1=>?_; subst hx; clear e; have e:=e1; clear e1
    refine onI_some_k e fun j hx e1=>?_; subst hx; clear e; have e:=e1; clear e1
    obtain⟨hl,e⟩:=gd_some e
    cases e
    obtain⟨t,rfl⟩:=intE va; obtain⟨u,rfl⟩:=intE vb
    have:wpAny (model S.prog S.w) A (binaryOp .Mod (.int i t) (.int j u)) Q E s:=by
      refine mod_int' (Int.ne_of_gt hl) ?_
      rw [fmod_pos hl]
      exact q.tok hr (.int _ _) _
    cases o <;> first | (cases c; done) | exact this
theorem aug_ok {op:BOp} {o:Operator} {a b r:V} {wa wb:Value} (e:augV op a b=some r) (c:opIs op o=true) (hr:HR S as T H s.heap) (va:VR S.fa as T a wa) (vb:VR S.fa as T b wb) (q:Ret S as T s H r Q):wpAny (model S.prog S.w) A (inplaceOp o wa wb) Q E s:=by
  refine onI_some_k e fun i hx e1=>?_; subst hx; clear e; have e:=e1; clear e1
  refine onI_some_k e fun j hx e1=>?_; subst hx; clear e; have e:=e1; clear e1
  obtain⟨t,rfl⟩:=intE va; obtain⟨u,rfl⟩:=intE vb
  cases op with
  | add=>cases e; cases o <;> first | (cases c; done) | exact iadd_int (q.tok hr (.int _ _) _)
  | _=>first | exact ff e | exact nn e | cases e
theorem strOk_ascii {x:List Nat} (h:x.all (· < 128)=true):PyData.strOk ⟨x.toArray⟩=true:=by
  unfold PyData.strOk
  rw [← Array.all_toList]
  refine List.all_eq_true.mpr fun c hc=>?_
  have:=List.all_eq_true.mp h c (by simpa using hc)
  simp at this ⊢
  exact Nat.not_le.mp (lin [_] (.c 1 (.a (.v 0) (.n 1)) (.n 128) (.c 1 (.n 1114112) (.v 0) .z)) rfl this)
theorem mapO_some {α β:Type} {f:α→Option β} {a:α} {r:List α} {l:List β} (e:mapO f (a::r)=some l) {g:Prop} (k:∀ b bs,f a=some b→mapO f r=some bs→b::bs=l→g):g:=by
  cases h:f a with
  | none=>rw [mapO_2,h] at e; exact nn e
  | some b =>
    cases h2:mapO f r with
    | none=>rw [mapO_2,h,h2] at e; exact nn e
    | some bs=>rw [mapO_2,h,h2] at e; exact k b bs h h2 (Option.some.inj e)
theorem dat_reads (hr:HR S as T H h):∀(n:Nat) {v:V} {w:Value} {d:PyData},dat H n v=some d→VR S.fa as T v w→∃ bs,Reads h w d bs:=by
  intro n
  induction n with
  | zero=>intro v w d e; cases e
  | succ n ih =>
    have all:∀ {l:List V} {ws:List Value} {ds:List PyData},mapO (dat H n) l=some ds→VRs S.fa as T l ws→∃ bs,ReadsAll h ws ds bs:=by
      intro l
      induction l with
      | nil=>intro ws ds e x; cases e; cases x; exact⟨_,.nil⟩
      | cons a r ihl =>
        intro ws ds e x
        cases x with
        | cons y z =>
          refine mapO_some e fun d ds' hd hds e=>?_
          cases e
          obtain⟨bs,r1⟩:=ih hd y
          obtain⟨cs,r2⟩:=ihl hds z
          exact⟨_,.cons r1 r2⟩
    intro v w d e x
    cases v with
    | none=>cases e; cases noneE x; exact⟨_,.none⟩
    | bool=>cases e; cases boolE x; exact⟨_,.bool _⟩
    | int=>cases e; obtain⟨t,rfl⟩:=intE x; exact⟨_,.int _ _⟩
    | str y =>
      obtain⟨_,rfl⟩:=gd_some e
      obtain⟨t,rfl,_⟩:=strE x; exact⟨_,.str _ _⟩
    | tup y =>
      obtain⟨ds,hds,rfl⟩:=Option.map_eq_some_iff.mp e
      refine tupE_k hr x fun a ws zq38=>?_
      subst zq38
      intro zq39 hz hv
      obtain⟨o,e1,c,k,d1⟩:=zq39
      obtain⟨bs,r⟩:=all hds hv
      exact⟨_,.tuple e1 c d1 (by simpa using r)⟩
    | loc i =>
      refine atL_some_k e fun l hl e=>?_
      obtain⟨ds,hds,rfl⟩:=Option.map_eq_some_iff.mp e
      refine hr.listAt_k hl x fun a ws k zq40=>?_
      subst zq40
      intro hp e1 hz hv
      obtain⟨bs,r⟩:=all hds hv
      exact⟨_,.list e1 rfl rfl (by simpa using r)⟩
    | _=>exact nn e
theorem dat_shape:∀(n:Nat) {v:V} {d:PyData},dat H n v=some d→d.canLay0=true∧d.depth≤n:=by
  intro n
  induction n with
  | zero=>intro v d e; cases e
  | succ n ih =>
    have all:∀ {l:List V} {ds:List PyData},mapO (dat H n) l=some ds→PyData.canLayAll0 ds=true∧PyData.depthAll ds≤n:=by
      intro l
      induction l with
      | nil=>intro ds e; cases e; exact⟨rfl,Nat.zero_le _⟩
      | cons a r ihl =>
        intro ds e
        refine mapO_some e fun d ds' hd hds e=>?_
        cases e
        have h1:=ih hd
        have h2:=ihl hds
        refine⟨?_,?_⟩
        · simp only [PyData.canLayAll0,h1.1,h2.1,Bool.and_self]
        · simp only [PyData.depthAll]; omega
    intro v d e
    have up:∀ {m:Nat},m≤n→m+1≤n+1:=Nat.succ_le_succ
    cases v with
    | none=>cases e; exact⟨rfl,Nat.zero_le _⟩
    | bool=>cases e; exact⟨rfl,Nat.zero_le _⟩
    | int=>cases e; exact⟨rfl,Nat.zero_le _⟩
    | str y =>
      obtain⟨ha,rfl⟩:=gd_some e
      exact⟨strOk_ascii ha,Nat.zero_le _⟩
    | tup y =>
      obtain⟨ds,hds,rfl⟩:=Option.map_eq_some_iff.mp e
      exact⟨(all hds).1,by simp only [PyData.depth]; first | exact up (all hds).2 | (have:=(all hds).2; omega)⟩
    | loc i =>
      refine atL_some_k e fun l hl e=>?_
      obtain⟨ds,hds,rfl⟩:=Option.map_eq_some_iff.mp e
      exact⟨(all hds).1,by simp only [PyData.depth]; first | exact up (all hds).2 | (have:=(all hds).2; omega)⟩
    | _=>exact nn e
theorem dat_shaped {v:V} {d:PyData} (e:dat H 8 v=some d):SeqAt.shaped d=true:=by
  have:=dat_shape 8 e
  unfold SeqAt.shaped
  rw [this.1,Bool.true_and]
  exact decide_eq_true (by exact Nat.not_lt.mp (lin [_] (.c 1 (.v 0) (.n 8) (.c 1 (.a (.n 64) (.n 1)) (.v 0) .z)) rfl this.2))
end
end Mine
namespace Mine
section
variable {S:Sur} {as as1:As} {T T1:TS} {H H':Hp} {h h' h1:Heap} {s:Shared} {v:V} {w:Value} {Q:Value→Shared→Prop} {A:Around} {E:Value→Shared→Prop}
theorem str_beq2 (x y:List Nat):((⟨x.toArray⟩:Str) == (⟨y.toArray⟩:Str))=(x == y):=by
  by_cases h:x=y
  · subst h; simp
  · have:(⟨x.toArray⟩:Str)≠⟨y.toArray⟩:=fun q=>h (by simpa using congrArg (fun z=>z.cps.toList) q)
    rw [beq_eq_false_iff_ne.mpr this,beq_eq_false_iff_ne.mpr h]
theorem eqDict_ok {es fs:List (List Nat×V)} {a b:Addr} {ka kb:List (Str×Value)} {r:Bool} (hu:A.units+64<cLine) (e:eqDict es fs=some r) (ha:(a == sysModules)=false) (hb:(b == sysModules)=false) (da:s.heap.DictOf (strKind S.prog S.w) a ka) (db:s.heap.DictOf (strKind S.prog S.w) b kb) (ra:DR S as T es ka) (rb:DR S as T fs kb) (q:Q (.bool r) s):wpAny (model S.prog S.w) A (compareOp .Eq (.ref a) (.ref b)) Q E s:=by
  cases ra with
  | nil=>exact nn e
  | @cons k v wv es ka va ra=>cases ra with
    | cons _ _=>cases rb with
      | nil=>exact nn e
      | cons _ _=>exact nn e
    | nil=>cases rb with
      | nil=>exact nn e
      | @cons j u wu fs kb ub rb=>cases rb with
        | cons _ _=>exact nn e
        | nil =>
          have hl:((⟨j.toArray⟩:Str) == (⟨k.toArray⟩:Str))=(j == k):=str_beq2 _ _
          replace e:(if k == j then onS v fun s=>onS u fun t=>some (s == t) else some false)=some r:=e
          refine keq_eq (r:=r) ha hb da db (by exact Nat.not_le.mp (lin [_,_] (.c 1 (.a (.a (.v 0) (.n 64)) (.n 1)) (.v 1) (.c 1 (.v 1) (.v 0) .z)) rfl hu)) (fun _=>?_) q
          cases hk:k == j with
          | false =>
            rw [hk] at e; cases e
            refine .miss ?_
            have:(⟨j.toArray⟩:Str)≠⟨k.toArray⟩:=fun h=>by
              rw [beq_iff_eq.mpr h] at hl
              rw [beq_iff_eq.mp hl.symm,beq_self_eq_true] at hk; cases hk
            show Option.map _ (List.find? _ [_])=none
            rw [List.find?_cons_of_neg (by rw [decide_eq_false this]; exact Bool.false_ne_true)]; rfl
          | true =>
            rw [hk] at e
            cases beq_iff_eq.mp hk
            refine onS_some_k e fun x hx e=>?_
            refine onS_some_k e fun y hy e=>?_
            subst hx; subst hy
            cases e
            refine strE_k va fun t hw _=>?_
            subst hw
            refine strE_k ub fun t' hw _=>?_
            subst hw
            have h1:SeqAt.EqAt A.in1 s (.str ⟨x.toArray⟩ t) (.str ⟨y.toArray⟩ t') (x == y):=by rw [← str_beq2]; exact SeqAt.EqAt.str_str _ _ _ _
            have h2:=KeqHits.hit (A:=A.in1) (s:=s) (kb:=[((⟨k.toArray⟩:Str),Value.str ⟨y.toArray⟩ t')]) (k:=⟨k.toArray⟩) (r:=[]) (by show Option.map _ (List.find? _ [_])=_; rw [List.find?_cons_of_pos (by exact decide_eq_true rfl)]; rfl) h1 .nil
            rw [Bool.and_true] at h2
            exact h2
theorem eq_ok {a b:V} {wa wb:Value} {r:Bool} (hu:A.units+64<cLine) (e:eqV H a b=some r) (hr:HR S as T H s.heap) (va:VR S.fa as T a wa) (vb:VR S.fa as T b wb) (q:∀ tk,Q (.bool r) { s with toks:=tk }):wpAny (model S.prog S.w) A (compareOp .Eq wa wb) Q E s:=by
  unfold eqV at e
  cases hf:fastEq H a b with
  | none=>rw [hf] at e; cases e
  | some r' =>
    rw [hf] at e
    subst e
    cases a with
    | str x =>
      cases b with
      | str y =>
        cases hf
        refine strE_k va fun t zq45=>?_
        subst zq45
        intro h1; obtain⟨u,rfl,h2⟩:=strE vb
        exact eq_str (by rw [str_beq2]; exact q _)
      | _=>first | exact ff hf | exact nn hf | cases hf
    | int i =>
      cases b with
      | int j =>
        cases hf
        obtain⟨t,rfl⟩:=intE va; obtain⟨u,rfl⟩:=intE vb
        exact eq_int (q _)
      | _=>first | exact ff hf | exact nn hf | cases hf
    | tup l =>
      cases b with
      | str y =>
        cases hf
        refine tupE_k hr va fun a' ws zq47=>?_
        subst zq47
        intro ht hz hv
        refine strE_k vb fun u zq48=>?_
        subst zq48
        intro h2
        exact SeqAt.RcAt.tuple_str _ _ ht (by exact Nat.not_le.mp (lin [_,_] (.c 1 (.a (.a (.v 0) (.n 64)) (.n 1)) (.v 1) (.c 1 (.v 1) (.v 0) .z)) rfl hu)) S.prog S.w E Q (q _)
      | _=>first | exact ff hf | exact nn hf | cases hf
    | loc i =>
      cases b with
      | loc j =>
        obtain⟨es,h1,h2⟩:∃ es,H[i]? = some (.dict es)∧atD H j (eqDict es)=some r:=by
          revert hf
          show(match H[i]? with | some (.dict es)=>some (atD H j (eqDict es)) | _=>none)=some (some r)→_
          cases H[i]? with
          | none=>exact fun h=>nomatch h
          | some o=>cases o with
            | dict es=>exact fun h=>⟨es,rfl,Option.some.inj h⟩
            | _=>exact fun h=>nomatch h
        refine atD_some_k h2 fun fs h3 h4=>?_
        refine hr.dictAt_k h1 va fun a ds hw h5 h6 _ h7=>?_
        subst hw
        refine hr.dictAt_k h3 vb fun b dt hw h8 h9 _ h10=>?_
        subst hw
        have low:∀ {n:Nat} {a:Addr},as[n]? = some (a,none)→(a == sysModules)=false:=fun h=>beq_eq_false_iff_ne.mpr (Nat.ne_of_gt (hr.big _ (mem_owned h).1))
        exact eqDict_ok hu h4 (low h5) (low h8) h6 h9 h7 h10 (q _)
      | _=>first | exact ff hf | exact nn hf | cases hf
    | _=>first | exact ff hf | exact nn hf | cases hf
theorem neD_ok {a b:V} {wa wb:Value} {r:Bool} (hu:A.units+64<cLine) (e:(eqD H a b).map (!·)=some r) (hr:HR S as T H s.heap) (va:VR S.fa as T a wa) (vb:VR S.fa as T b wb) (q:∀ tk,Q (.bool r) { s with toks:=tk }):wpAny (model S.prog S.w) A (compareOp .NotEq wa wb) Q E s:=by
  refine map_some_k e fun r' e h=>?_
  refine eqD_some_k e fun x y hx hy hr'=>?_
  obtain⟨bs,r1⟩:=dat_reads hr 8 hx va
  obtain⟨cs,r2⟩:=dat_reads hr 8 hy vb
  exact SeqAt.compareNe_shaped r1 r2 (dat_shaped hx) (dat_shaped hy) hu (by rw [hr',h]; exact q _)
theorem ne_ok {a b:V} {wa wb:Value} {r:Bool} (hu:A.units+64<cLine) (e:neV H a b=some r) (hr:HR S as T H s.heap) (va:VR S.fa as T a wa) (vb:VR S.fa as T b wb) (q:∀ tk,Q (.bool r) { s with toks:=tk }):wpAny (model S.prog S.w) A (compareOp .NotEq wa wb) Q E s:=by
  unfold neV at e
  cases hf:fastNe a b with
  | none=>rw [hf] at e; exact neD_ok hu e hr va vb q
  | some r' =>
    rw [hf] at e
    cases e
    refine onS_some_k hf fun x hx e1=>?_; subst hx
    refine onS_some_k e1 fun y hy e2=>?_; subst hy
    cases e2
    refine strE_k va fun t zq49=>?_
    subst zq49
    intro h1; obtain⟨u,rfl,h2⟩:=strE vb
    exact ne_str (by rw [bne,str_beq2]; exact q _)
theorem strsE:∀ {l:List V} {ws:List Value} {ss:List (List Nat)},strsOf l=some ss→VRs S.fa as T l ws→StrsAre ws (ss.map fun x=>(⟨x.toArray⟩:Str))
  | _,_,_,e,.nil=>by cases e; exact .nil
  | a::r,_,_,e,.cons x y=>by
    cases a with
    | str z =>
      cases hl:strsOf r with
      | none=>rw [strsOf_2,hl] at e; exact nn e
      | some l =>
        rw [strsOf_2,hl] at e
        cases e
        refine strE_k x fun t zq51=>?_
        subst zq51
        intro _
        exact .cons _ _ (strsE hl y)
    | _=>exact nn e
theorem strs_any (x:List Nat):∀ {ws:List Value} {ss:List (List Nat)},StrsAre ws (ss.map fun x=>(⟨x.toArray⟩:Str))→ws.any (fun y=>y.isStr ⟨x.toArray⟩)=ss.any (· == x)
  | _,[],h=>by cases h; rfl
  | _,y::r,h=>by
    cases h with
    | cons _ _ h' =>
      rw [List.any_cons,List.any_cons,strs_any x h']
      congr 1
      exact str_beq2 y x
theorem strs_eqAt (x:List Nat) (u:Tok):∀ {ws:List Value} {ss:List Str},StrsAre ws ss→∀ y∈ws,SeqAt.EqAt A s y (.str ⟨x.toArray⟩ u) (y.isStr ⟨x.toArray⟩):=by
  intro ws ss h
  induction h with
  | nil=>intro y hy; cases hy
  | cons z t _ ih =>
    intro y hy
    cases hy with
    | head=>exact SeqAt.EqAt.str_str _ _ _ _
    | tail _ hy=>exact ih y hy
theorem in_ok {a b:V} {wa wb:Value} {r:Bool} (e:inV H a b=some r) (hr:HR S as T H s.heap) (va:VR S.fa as T a wa) (vb:VR S.fa as T b wb) (q:∀ tk,Q (.bool r) { s with toks:=tk }):wpAny (model S.prog S.w) A (compareOp .In wa wb) Q E s:=by
  refine onS_some_k e fun x hx e1=>?_; subst hx; clear e; have e:=e1; clear e1
  refine strE_k va fun t1 zq52=>?_
  subst zq52
  intro h1
  cases b with
  | tup l =>
    refine strsOf'_some_k e fun ss hs e=>?_
    cases e
    refine tupE_k hr vb fun a' ws zq54=>?_
    subst zq54
    intro ht hz hv
    have hst:=strsE hs hv
    refine SeqAt.in_tupleAt (fun y=>y.isStr ⟨x.toArray⟩) ht (fun y hy=>strs_eqAt x t1 hst y (by simpa using hy)) ?_
    rw [← Array.any_toList,List.toList_toArray,strs_any x hst]; exact q _
  | loc n =>
    refine atL_some_k e fun l hl e=>?_
    refine strsOf'_some_k e fun ss hs e=>?_
    cases e
    refine hr.listAt_k hl vb fun a' ws k zq55=>?_
    subst zq55
    intro hp e1 hz hv
    have hst:=strsE hs hv
    refine SeqAt.in_listAt (fun y=>y.isStr ⟨x.toArray⟩) ⟨_,e1,rfl,k,rfl⟩ (fun y hy=>strs_eqAt x t1 hst y (by simpa using hy)) ?_
    rw [← Array.any_toList,List.toList_toArray,strs_any x hst]; exact q _
  | _=>first | exact ff e | exact nn e | cases e
theorem notin_ok {a b:V} {wa wb:Value} {r:Bool} (e:inV H a b=some r) (hr:HR S as T H s.heap) (va:VR S.fa as T a wa) (vb:VR S.fa as T b wb) (q:∀ tk,Q (.bool (!r)) { s with toks:=tk }):wpAny (model S.prog S.w) A (compareOp .NotIn wa wb) Q E s:=by
  refine onS_some_k e fun x hx e1=>?_; subst hx; clear e; have e:=e1; clear e1
  refine strE_k va fun t1 zq56=>?_
  subst zq56
  intro h1
  cases b with
  | tup l =>
    refine strsOf'_some_k e fun ss hs e=>?_
    cases e
    refine tupE_k hr vb fun a' ws zq58=>?_
    subst zq58
    intro ht hz hv
    have hst:=strsE hs hv
    refine SeqAt.notIn_tupleAt (fun y=>y.isStr ⟨x.toArray⟩) ht (fun y hy=>strs_eqAt x t1 hst y (by simpa using hy)) ?_
    rw [← Array.any_toList,List.toList_toArray,strs_any x hst]; exact q _
  | loc n =>
    refine atL_some_k e fun l hl e=>?_
    refine strsOf'_some_k e fun ss hs e=>?_
    cases e
    refine hr.listAt_k hl vb fun a' ws k zq59=>?_
    subst zq59
    intro hp e1 hz hv
    have hst:=strsE hs hv
    refine SeqAt.notIn_listAt (fun y=>y.isStr ⟨x.toArray⟩) ⟨_,e1,rfl,k,rfl⟩ (fun y hy=>strs_eqAt x t1 hst y (by simpa using hy)) ?_
    rw [← Array.any_toList,List.toList_toArray,strs_any x hst]; exact q _
  | _=>first | exact ff e | exact nn e | cases e
theorem vr_ne_none (x:VR S.fa as T v w) (hv:v≠.none):w≠.none:=by
  cases x <;> first | exact absurd rfl hv | (intro q; cases q)
theorem isV_some {a b:V} {r:Bool} (e:isV' a b=some r):b=.none∧isNone0 a=r:=by
  unfold isV' at e
  cases h:isNone0 b with
  | true=>rw [h] at e; exact⟨isNone0_eq h,Option.some.inj e⟩
  | false=>rw [h] at e; first | exact nn e | exact ff e | cases e
theorem is_ok {a b:V} {wa wb:Value} {r:Bool} (e:isV' a b=some r) (va:VR S.fa as T a wa) (vb:VR S.fa as T b wb) (q:∀ tk,Q (.bool r) { s with toks:=tk }):wpAny (model S.prog S.w) A (compareOp .Is wa wb) Q E s:=by
  obtain⟨rfl,rfl⟩:=isV_some e
  cases noneE vb
  cases h:isNone0 a with
  | true=>cases isNone0_eq h; cases noneE va; exact wpAny_is_self rfl (q _)
  | false =>
    rw [h] at q
    refine wpAny_is_other ?_ (vr_ne_none va fun q=>by rw [q] at h; cases h) (q _)
    cases va <;> rfl
theorem isnot_ok {a b:V} {wa wb:Value} {r:Bool} (e:isV' a b=some r) (va:VR S.fa as T a wa) (vb:VR S.fa as T b wb) (q:∀ tk,Q (.bool (!r)) { s with toks:=tk }):wpAny (model S.prog S.w) A (compareOp .IsNot wa wb) Q E s:=by
  obtain⟨rfl,rfl⟩:=isV_some e
  cases noneE vb
  cases h:isNone0 a with
  | true=>cases isNone0_eq h; cases noneE va; exact wpAny_isNot_self rfl (q _)
  | false =>
    rw [h] at q
    refine wpAny_isNot_other ?_ (vr_ne_none va fun q=>by rw [q] at h; cases h) (q _)
    cases va <;> rfl
theorem lt_ok {a b:V} {wa wb:Value} {r:Bool} (hu:A.units+64<cLine) (e:ltV H a b=some r) (hr:HR S as T H s.heap) (va:VR S.fa as T a wa) (vb:VR S.fa as T b wb) (q:∀ tk,Q (.bool r) { s with toks:=tk }):wpAny (model S.prog S.w) A (compareOp .Lt wa wb) Q E s:=by
  cases a with
  | int i =>
    refine onI_some_k e fun j hx e1=>?_; subst hx; clear e; have e:=e1; clear e1
    cases e
    obtain⟨t,rfl⟩:=intE va; obtain⟨u,rfl⟩:=intE vb
    exact lt_int (q _)
  | _=>first | exact ff e | exact nn e | cases e
theorem cmp_ok {op:COp} {o:CmpOp} {a b:V} {wa wb:Value} {r:Bool} (hu:A.units+64<cLine) (e:cmpV H op a b=some r) (c:copIs op o=true) (hr:HR S as T H s.heap) (va:VR S.fa as T a wa) (vb:VR S.fa as T b wb) (q:∀ tk,Q (.bool r) { s with toks:=tk }) :
    wpAny (model S.prog S.w) A (compareOp o wa wb) Q E s:=by
  cases op with
  | eq=>cases o <;> first | (cases c; done) | exact eq_ok hu e hr va vb q
  | ne=>cases o <;> first | (cases c; done) | exact ne_ok hu e hr va vb q
  | lt=>cases o <;> first | (cases c; done) | exact lt_ok hu e hr va vb q
  | le =>
    refine onI_some_k e fun i hx e1=>?_; subst hx; clear e; have e:=e1; clear e1
    refine onI_some_k e fun j hx e1=>?_; subst hx; clear e; have e:=e1; clear e1
    cases e
    obtain⟨t,rfl⟩:=intE va; obtain⟨u,rfl⟩:=intE vb
    cases o <;> first | (cases c; done) | exact le_int (q _)
  | gt =>
    refine onI_some_k e fun i hx e1=>?_; subst hx; clear e; have e:=e1; clear e1
    refine onI_some_k e fun j hx e1=>?_; subst hx; clear e; have e:=e1; clear e1
    cases e
    obtain⟨t,rfl⟩:=intE va; obtain⟨u,rfl⟩:=intE vb
    cases o <;> first | (cases c; done) | exact gt_int (q _)
  | ge=>exact nn e
  | is=>cases o <;> first | (cases c; done) | exact is_ok e va vb q
  | isnot =>
    refine map_some_k e fun r' h1 zq60=>?_
    subst zq60
    cases o <;> first | (cases c; done) | exact isnot_ok h1 va vb q
  | isin=>cases o <;> first | (cases c; done) | exact in_ok e hr va vb q
  | notin =>
    refine map_some_k e fun r' h1 zq61=>?_
    subst zq61
    cases o <;> first | (cases c; done) | exact notin_ok h1 hr va vb q
end
end Mine
namespace Mine
section
variable {S:Sur} {as as1:As} {T T1:TS} {H H':Hp} {h h' h1:Heap} {s:Shared} {v:V} {w:Value} {Q:Value→Shared→Prop} {A:Around} {E:Value→Shared→Prop}
noncomputable def Sub (s:Shared) (w:Value):Prop:=∃ Ty id,s.TypeIs w Ty∧typeLookup (.type Ty) "__getitem__" = pure (some (.builtin id))
theorem idxL_some {α:Type} {l:List α} {i:Int} {x:α} (e:idxL l i=some x):0≤i∧l[i.toNat]? = some x:=by
  unfold idxL at e
  split at e
  · exact⟨by assumption,e⟩
  · first | exact ff e | exact nn e | cases e
theorem str_eq_iff {x y:List Nat}:(⟨x.toArray⟩:Str)=⟨y.toArray⟩↔x=y:=⟨fun q=>by simpa using congrArg (fun z=>z.cps.toList) q,fun q=>by rw [q]⟩
theorem dr_at {es:List (List Nat×V)} {ds:List (Str×Value)} (x:DR S as T es ds) (k:List Nat):match lookS k es with
    | some v=>∃ w,valueAt ds ⟨k.toArray⟩=some w∧VR S.fa as T v w
    | none=>valueAt ds ⟨k.toArray⟩=none:=by
  induction x with
  | nil=>rfl
  | @cons k' v w es ds h r ih =>
    by_cases hk:k'=k
    · subst hk
      have h1:lookS k' ((k',v)::es)=some v:=by simp [lookS_1,lookS_2]
      rw [h1]
      exact⟨w,by simp [valueAt],h⟩
    · have h1:lookS k ((k',v)::es)=lookS k es:=by simp [lookS_1,lookS_2,hk]
      have h2:valueAt ((⟨k'.toArray⟩,w)::ds) ⟨k.toArray⟩=valueAt ds ⟨k.toArray⟩:=by
        unfold valueAt
        rw [List.find?_cons_of_neg]
        simp only [decide_eq_true_eq]
        exact fun q=>hk (str_eq_iff.mp q)
      rw [h1,h2]
      exact ih
theorem list_sub {a:Addr} {ws:List Value} {k:Nat} (e:s.heap.get? a=some (lst ws k)):Sub s (.ref a):=⟨_,_,⟨_,e,rfl⟩,PySem.slot_list_getitem.lookup⟩
theorem idx_ok {a i r:V} {wa wi:Value} (e:idxV H a i=some r) (hr:HR S as T H s.heap) (va:VR S.fa as T a wa) (vi:VR S.fa as T i wi) (q:∀ u tk,VR S.fa as T r u→Q u { s with toks:=tk }) :
    Sub s wa∧wpAny (model S.prog S.w) A (getItem wa wi) Q E s:=by
  cases a with
  | tup l =>
    refine onI_some_k e fun i hx e1=>?_; subst hx; clear e; have e:=e1; clear e1
    obtain⟨t,rfl⟩:=intE vi
    obtain⟨h1,h2⟩:=idxL_some e
    refine⟨?_,item_tup_ok hr va h1 h2 fun u vu=>q u s.toks vu⟩
    refine tupE_k hr va fun a' ws zq62=>?_
    subst zq62
    intro zq63 hz hv
    obtain⟨o,e1,c,_⟩:=zq63
    exact⟨_,_,⟨_,e1,c⟩,PySem.F.slot_tuple_getitem.lookup⟩
  | str x =>
    refine onI_some_k e fun i hx e1=>?_; subst hx; clear e; have e:=e1; clear e1
    obtain⟨t,rfl⟩:=intE vi
    refine map_some_k e fun c hc zq64=>?_
    subst zq64
    obtain⟨h1,h2⟩:=idxL_some hc
    refine strE_k va fun u zq65=>?_
    subst zq65
    intro hz
    have hlt:=(List.getElem?_eq_some_iff.mp h2).1
    have h63:=lim_63 hz
    refine⟨⟨_,_,rfl,PySem.F.slot_str_getitem.lookup⟩,getItem_str (c:=c) (by simp; omega) ?_ (q _ _ (.str [c] _ (by simp [lim])))⟩
    have:seqIndex? i (⟨x.toArray⟩:Str).length=some i.toNat:=by
      unfold seqIndex?
      rw [str_len]
      simp only [show ¬ i<0 by omega,if_false]
      rw [if_pos (by simp; omega)]
    rw [this]
    simpa using h2
  | loc n =>
    cases i with
    | int i =>
      obtain⟨t,rfl⟩:=intE vi
      refine atL_some_k e fun l hl e=>?_
      obtain⟨h1,h2⟩:=idxL_some e
      refine⟨?_,item_list_ok hr va hl h1 h2 fun u vu=>q u s.toks vu⟩
      refine hr.listAt_k hl va fun a' ws k zq66=>?_
      subst zq66
      intro hp e1 hz hv
      exact list_sub e1
    | _=>first | exact ff e | exact nn e | cases e
  | _=>first | exact ff e | exact nn e | cases e
theorem dr_put {es:List (List Nat×V)} {ds:List (Str×Value)} {u:V} {w:Value} (x:DR S as T es ds) (vr:VR S.fa as T u w) (k:List Nat) (hn:(ds.map (·.1)).Nodup):DR S as T (putS k u es) (stored ds ⟨k.toArray⟩ w):=by
  induction x with
  | nil=>exact .cons vr .nil
  | @cons k' v' w' es ds h r ih =>
    obtain⟨n1,n2⟩:=List.nodup_cons.mp hn
    by_cases hk:k'=k
    · subst hk
      have h1:putS k' u ((k',v')::es)=(k',u)::es:=by simp [putS_1,putS_2]
      have h2:stored ((⟨k'.toArray⟩,w')::ds) ⟨k'.toArray⟩ w=(⟨k'.toArray⟩,w)::ds:=by
        unfold stored
        rw [if_pos (by simp),List.map_cons,if_pos rfl]
        congr 1
        rw [List.map_congr_left (g:=id),List.map_id]
        intro z hz
        rw [if_neg]; rfl
        intro q
        exact n1 (q▸List.mem_map.mpr ⟨z,hz,rfl⟩)
      rw [h1,h2]
      exact .cons vr r
    · have hne:(⟨k'.toArray⟩:Str)≠⟨k.toArray⟩:=fun q=>hk (str_eq_iff.mp q)
      have h1:putS k u ((k',v')::es)=(k',v')::putS k u es:=by simp [putS_1,putS_2,hk]
      have h2:stored ((⟨k'.toArray⟩,w')::ds) ⟨k.toArray⟩ w=(⟨k'.toArray⟩,w')::stored ds ⟨k.toArray⟩ w:=by
        unfold stored
        rw [List.any_cons,decide_eq_false hne,Bool.false_or,List.map_cons,if_neg hne,List.cons_append]
        split <;> rfl
      rw [h1,h2]
      exact .cons h (ih n2)
theorem put_len {α:Type} (k:List Nat) (u:α):∀ es:List (List Nat×α),(putS k u es).length≤es.length+1
  | []=>Nat.le_refl _
  | (j,v)::r=>by
    rw [putS_2]
    split
    · simp
    · have:=put_len k u r; simp; exact Nat.not_lt.mp (lin [_,_] (.c 1 (.v 0) (.a (.v 1) (.n 1)) (.c 1 (.a (.a (.v 1) (.n 1)) (.n 1)) (.v 0) .z)) rfl this)
theorem dr_len {es:List (List Nat×V)} {ds:List (Str×Value)} (x:DR S as T es ds):ds.length=es.length:=by
  induction x with
  | nil=>rfl
  | cons _ _ ih=>rw [List.length_cons,List.length_cons,ih]
theorem setI_ok {o i x:V} {wo wi wx:Value} {Q:Unit→Shared→Prop} (e:setI H o i x=some H') (hr:HR S as T H s.heap) (vo:VR S.fa as T o wo) (vi:VR S.fa as T i wi) (vx:VR S.fa as T x wx) (q:RetU S as T s H' Q) :
    wpAny (model S.prog S.w) A (setItem wo wi wx) Q E s:=by
  refine onN_some_k e fun n hx e1=>?_; subst hx; clear e; have e:=e1; clear e1
  cases i with
  | int i =>
    refine atL_some_k e fun l hl e=>?_
    obtain⟨hc,e⟩:=gd_some e
    cases e
    obtain⟨t,rfl⟩:=intE vi
    exact setItem_list_ok hr vo vx hl hc.1 hc.2 q
  | str k =>
    refine atD_some_k e fun es hl e=>?_
    obtain⟨hc,e⟩:=gd_some e
    cases e
    refine strE_k vi fun t zq69=>?_
    subst zq69
    intro hz
    refine hr.dictAt_k hl vo fun a ds zq70=>?_
    subst zq70
    intro hp e1 hz hv
    have ao:a∈owned as:=(mem_owned hp).1
    refine wpAny_setItem_pairs (knd:=strKind S.prog S.w) (k:=⟨k.toArray⟩) (strKind_is _ _ _ _) e1 (fun h' e2 sb=>?_) (by rw [dr_len hv]; exact Nat.le_trans hz (by decide))
    have kp:∀ b o,b≠a→s.heap.get? b=some o→h'.get? b=some o:=fun b o nb e=>(sb.2 b nb).trans e
    have hnd:(ds.map (·.1)).Nodup:=by obtain⟨_,_,_,_,_,_,_,_,z⟩:=e1; exact z
    exact q h' _ as T (.upd ao kp) (hr.upd hp (List.getElem?_eq_some_iff.mp hl).1 (.head _) kp (.dict e2 (Nat.le_trans (put_len k x es) hc) (dr_put hv vx k hnd)) (hr.noT_dict e1))
  | _=>first | exact ff e | exact nn e | cases e
noncomputable def KV (S:Sur):IK→Value→Prop
  | .int,w=>w=.type "int"
  | .str,w=>w=.type "str"
  | .tuple,w=>w=.type "tuple"
  | .cls k,w=>∃ C:Nat,S.ca[k]? = some C∧w=.ref C
theorem kit_ty (C:Cx S) {t c:String} (ht:t∈tyNames) (hc:c∈["int","str","tuple"]):kitOne S.K (.type t) (.type c)=some (t == c || (t == "bool" && c == "int")):=by
  have:=C.kit
  unfold kitAll at this
  simp only [Bool.and_eq_true] at this
  exact beq_iff_eq.mp (List.all_eq_true.mp (List.all_eq_true.mp this.1 t ht) c hc)
theorem kit_cls (C:Cx S) {D k:Nat} (hD:S.ca[k]? = some D):kitOne S.K (.type "int") (.ref D)=some false∧kitOne S.K (.type "str") (.ref D)=some false:=by
  have:=C.kit
  unfold kitAll at this
  simp only [Bool.and_eq_true] at this
  have:=List.all_eq_true.mp this.2 D (List.mem_of_getElem? hD)
  simp only [Bool.and_eq_true] at this
  exact⟨beq_iff_eq.mp this.1,beq_iff_eq.mp this.2⟩
noncomputable def tyV:V→Option String
  | .int _=>some "int"
  | .bool _=>some "bool"
  | .none=>some "NoneType"
  | .str _=>some "str"
  | .tup _=>some "tuple"
  | _=>none
theorem kia_ty (C:Cx S) {x:V} {t:String} {b:Bool} {wx wk:Value} (hr:HR S as T H s.heap) (ht:tyV x=some t) (vx:VR S.fa as T x wx) (e:kitOne S.K (.type t) wk=some b) (q:∀ tk,Q (.bool b) { s with toks:=tk }):wpAny (model S.prog S.w) A (call (.builtin "isinstance") [wx,wk]) Q E s:=by
  have X:=C.X.keeps hr.base
  cases x with
  | none =>
    cases ht; cases noneE vx
    exact kia_one kitx_none X trivial e (by intro q; cases q) q
  | bool =>
    cases ht; cases boolE vx
    exact kia_one kitx_bool X trivial e (by intro q; cases q) q
  | int =>
    cases ht; obtain⟨t,rfl⟩:=intE vx
    exact kia_one kitx_int X trivial e (by intro q; cases q) q
  | str =>
    cases ht
    refine strE_k vx fun t zq71=>?_
    subst zq71
    intro _
    exact kia_one kitx_str X trivial e (by intro q; cases q) q
  | tup =>
    cases ht
    refine tupE_k hr vx fun a ws zq72=>?_
    subst zq72
    intro zq73 hz hv
    obtain⟨o,e1,c1,_⟩:=zq73
    exact kia_one kitx_tuple X ⟨o,e1,c1⟩ e (by intro q; cases q) q
  | _=>exact nn ht
theorem tyV_mem {x:V} {t:String} (h:tyV x=some t):t∈tyNames:=by
  cases x <;> first | exact nn h | (cases h; decide)
theorem isi_ok {x:V} {k:IK} {b:Bool} {wx wk:Value} (C:Cx S) (e:isV x k=some b) (hr:HR S as T H s.heap) (vx:VR S.fa as T x wx) (hk:KV S k wk) (q:∀ tk,Q (.bool b) { s with toks:=tk }) :
    wpAny (model S.prog S.w) A (call (.builtin "isinstance") [wx,wk]) Q E s:=by
  have ex:∀ {c:String} {k:IK},isV x k=some b→(k=.int∧c="int")∨(k=.str∧c="str")∨(k=.tuple∧c="tuple")→∃ t,tyV x=some t∧b=(t == c || (t == "bool" && c == "int")):=by
    intro c k h hk
    rcases hk with⟨rfl,rfl⟩ | ⟨rfl,rfl⟩ | ⟨rfl,rfl⟩ <;> cases x <;> first | exact nn h | (cases h; exact⟨_,rfl,by decide⟩)
  cases k with
  | int=>exact nn e
  | str =>
    obtain⟨t,h1,h2⟩:=ex (c:="str") e (.inr (.inl ⟨rfl,rfl⟩))
    rw [show wk=.type "str" from hk]
    exact kia_ty C hr h1 vx ((kit_ty C (tyV_mem h1) (by decide)).trans (by rw [h2])) q
  | tuple =>
    obtain⟨t,h1,h2⟩:=ex (c:="tuple") e (.inr (.inr ⟨rfl,rfl⟩))
    rw [show wk=.type "tuple" from hk]
    exact kia_ty C hr h1 vx ((kit_ty C (tyV_mem h1) (by decide)).trans (by rw [h2])) q
  | cls k =>
    obtain⟨D,hD,rfl⟩:=hk
    cases x with
    | int=>cases e; exact kia_ty C hr rfl vx (kit_cls C hD).1 q
    | str=>cases e; exact kia_ty C hr rfl vx (kit_cls C hD).2 q
    | _=>exact nn e
end
end Mine
namespace Mine
section
variable {S:Sur} {as as1:As} {T T1:TS} {H H':Hp} {h h' h1:Heap} {s:Shared} {v:V} {w:Value} {Q:Value→Shared→Prop} {A:Around} {E:Value→Shared→Prop}
theorem vrs1_k {fa:List Nat} {a:V} {ws:List Value} (x:VRs fa as T [a] ws) {zg:Prop} (zk:∀ w,(ws=[w])→(VR fa as T a w)→zg):zg:=by
  cases x with
  | cons h r=>cases r; exact zk _ rfl h
theorem vrs1 {fa:List Nat} {a:V} {ws:List Value} (x:VRs fa as T [a] ws):∃ w,ws=[w]∧VR fa as T a w:=vrs1_k x fun w zh1 zh2=>⟨w,zh1,zh2⟩
theorem vrs2_k {fa:List Nat} {a b:V} {ws:List Value} (x:VRs fa as T [a,b] ws) {zg:Prop} (zk:∀ w,∀ u,(ws=[w,u])→(VR fa as T a w)→(VR fa as T b u)→zg):zg:=by
  cases x with
  | cons h r=>obtain⟨u,rfl,k⟩:=vrs1 r; exact zk _ _ rfl h k
theorem vrs2 {fa:List Nat} {a b:V} {ws:List Value} (x:VRs fa as T [a,b] ws):∃ w u,ws=[w,u]∧VR fa as T a w∧VR fa as T b u:=vrs2_k x fun w u zh1 zh2 zh3=>⟨w,u,zh1,zh2,zh3⟩
theorem vrs3_k {fa:List Nat} {a b c:V} {ws:List Value} (x:VRs fa as T [a,b,c] ws) {zg:Prop} (zk:∀ w,∀ u,∀ z,(ws=[w,u,z])→(VR fa as T a w)→(VR fa as T b u)→(VR fa as T c z)→zg):zg:=by
  cases x with
  | cons h r=>obtain⟨u,z,rfl,k,m⟩:=vrs2 r; exact zk _ _ _ rfl h k m
theorem one_div {x c:Int} (h:c=1∨c = -1):Builtin.divisionGoesByPylong x c=false:=by
  have h1:Nat.log2 1=0:=by decide
  unfold Builtin.divisionGoesByPylong
  rcases h with rfl | rfl <;> simp [h1]
theorem rng_len {a b c:Int} (h:c=1∨c = -1):Builtin.Range.rangeSize a b c=(rngLen a b c:Nat):=by
  unfold Builtin.Range.rangeSize rngLen
  rcases h with rfl | rfl
  · simp only [show(1:Int) > 0 by decide,show(0:Int)<1 by decide,if_true,Int.ediv_one]
    split <;> omega
  · simp only [show ¬ ((-1:Int) > 0) by decide,show ¬ (0:Int) < -1 by decide,show(-1:Int)<0 by decide,if_false,if_true,show(- -1:Int)=1 by decide,Int.ediv_one]
    split <;> omega
theorem rng_small {a b c:Int} (h:c=1∨c = -1) (ha:a.natAbs<1048576) (hb:b.natAbs<1048576):Builtin.Range.small a b c=true:=by
  have hs:Builtin.Range.rangeSize a b c≤4194304∧0≤Builtin.Range.rangeSize a b c:=by
    unfold Builtin.Range.rangeSize
    rcases h with rfl | rfl
    · simp only [show(1:Int) > 0 by decide,if_true,Int.ediv_one]
      split <;> omega
    · simp only [show ¬ ((-1:Int) > 0) by decide,if_false,show(- -1:Int)=1 by decide,Int.ediv_one]
      split <;> omega
  have f:∀ x:Int,-8388608≤x→x≤8388608→Builtin.Range.rangeFitsLong x=true:=fun x h1 h2=>by
    unfold Builtin.Range.rangeFitsLong
    simp only [Bool.and_eq_true,decide_eq_true_eq]
    omega
  unfold Builtin.Range.small
  simp only [Bool.and_eq_true,Bool.or_eq_true]
  refine⟨⟨⟨⟨f _ (by omega) (by omega),f _ (by omega) (by omega)⟩,f _ (by omega) (by omega)⟩,f _ (by omega) (by omega)⟩,.inr ?_⟩
  split
  · exact f _ (by omega) (by omega)
  · exact f _ (by omega) (by omega)
theorem rngL_vrs {a c:Int}:∀(n:Nat) {k:Nat} {acc:List Value},acc.length=n→(∀ j v,acc[j]? = some v→∃ t,v=Value.int (a+(k+j:Nat) * c) t)→VRs S.fa as T ((rngL (a+k * c) c n).map .int) acc
  | 0,k,acc,hl,_=>by
    have:acc=[]:=List.length_eq_zero_iff.mp hl
    subst this; exact .nil
  | n+1,k,[],hl,_=>by simp at hl
  | n+1,k,v::r,hl,hv=>by
    obtain⟨t,rfl⟩:=hv 0 v rfl
    rw [rngL_2,List.map_cons]
    refine .cons (by simpa using VR.int (a+k * c) t) ?_
    have:=rngL_vrs n (k:=k+1) (acc:=r) (by simpa using hl) (fun j u hu=>by
      obtain⟨t,ht⟩:=hv (j+1) u (by simpa using hu)
      exact⟨t,by rw [ht]; congr 2; push_cast; congr 1; omega⟩)
    rw [show a+((k+1:Nat):Int) * c=a+k * c+c by push_cast; rw [Int.add_mul]; omega] at this
    exact this
theorem rngL_len (a c:Int):∀ n,(rngL a c n).length=n
  | 0=>rfl
  | n+1=>by rw [rngL_2,List.length_cons,rngL_len]
theorem rngE_k {a b c:Int} (hr:HR S as T H h) (x:VR S.fa as T (.rng a b c) w) {zg:Prop} (zk:∀ p,∀ t,∀ u,∀ v,(w=.ref p)→(IsRange h p a b c t u v)→zg):zg:=by
  cases x with
  | rng t=>obtain⟨t1,u,v,e⟩:=hr.im _ _ t; exact zk _ _ _ _ rfl e
theorem new_rng {a b c:Int} {t u x:Tok} (hr:HR S as T H s.heap) (q:Ret S as T s H (.rng a b c) Q) (tk:Tok) :
    Q (.ref s.heap.objs.size) { s with heap:=s.heap.push { cls:=.type "range",data:=.fields #[.int a t,.int b u,.int c x] },toks:=tk }:=by
  obtain⟨e,r⟩:=new_im (a:=s.heap.objs.size) (i:=.rng a b c) hr (keep_push { cls:=.type "range",data:=.fields #[.int a t,.int b u,.int c x] }) ⟨t,u,x,Heap.get?_push_size _ rfl⟩ (fun _ q=>by cases q)
  exact q _ _ _ _ _ e r (.rng (.inr ⟨rfl,rfl⟩))
theorem listAtN_k {n:Nat} {l:List V} (hr:HR S as T H h) (hl:H[n]? = some (.list l)) (x:VR S.fa as T (.loc n) w) {zg:Prop} (zk:∀ a,∀ ws,(w=.ref a)→(h.IsList a ws.toArray)→(l.length≤lim)→(VRs S.fa as T l ws)→zg):zg:=by
  refine hr.listAt_k hl x fun a ws k zq76=>?_
  subst zq76
  intro hp e1 hz hv
  exact zk a ws rfl (⟨_,e1,rfl,k,rfl⟩) hz hv
theorem len_ok {a:V} {n:Nat} {w0:Value} (e:lenV a H=some n) (hr:HR S as T H s.heap) (v0:VR S.fa as T a w0) (q:Ret S as T s H (.int n) Q):wpAny (model S.prog S.w) A (call (.builtin "len") [w0]) Q E s:=by
  cases a with
  | str x =>
    cases e
    refine strE_k v0 fun t zq77=>?_
    subst zq77
    intro hz
    refine PyProof.Rows.len_str (by rw [str_len]; have:=lim_63 hz; omega) ?_
    rw [str_len]
    exact q.tok hr (.int _ _) _
  | tup l =>
    cases e
    refine tupE_k hr v0 fun a ws zq78=>?_
    subst zq78
    intro ht hz hv
    have hl:=hv.length
    refine len_tuple ht (by rw [List.size_toArray,hl]; exact lim_63 hz) ?_
    rw [List.size_toArray,hl]
    exact q.tok hr (.int _ _) _
  | loc n =>
    refine atL_some_k e fun l hl e=>?_
    cases e
    refine listAtN_k hr hl v0 fun a ws zq79=>?_
    subst zq79
    intro ht hz hv
    have hl:=hv.length
    refine len_list ht (by rw [List.size_toArray,hl]; exact lim_63 hz) ?_
    rw [List.size_toArray,hl]
    exact q.tok hr (.int _ _) _
  | _=>first | exact ff e | exact nn e | cases e
theorem int_ok {a:V} {n:Int} {w0:Value} (e:intV a=some n) (hr:HR S as T H s.heap) (v0:VR S.fa as T a w0) (q:Ret S as T s H (.int n) Q):wpAny (model S.prog S.w) A (call (.type "int") [w0]) Q E s:=by
  cases a with
  | int i =>
    cases e
    obtain⟨t,rfl⟩:=intE v0
    exact call_int_int (q.now hr (.int _ _))
  | _=>first | exact ff e | exact nn e | cases e
theorem list_ok {a:V} {l:List V} {w0:Value} (hh:A.handled=none) (e:listV a H=some l) (hr:HR S as T H s.heap) (v0:VR S.fa as T a w0) (q:Ret S as T s (H++[.list l]) (.loc H.length) Q):wpAny (model S.prog S.w) A (call (.type "list") [w0]) Q E s:=by
  cases a with
  | tup l=>cases e; exact listTup_ok hr v0 q
  | rng a b c =>
    obtain⟨hc,e⟩:=gd_some e
    cases e
    refine rngE_k hr v0 fun p t u x zq81=>?_
    subst zq81
    intro hR
    refine PySem.call_list_range hh hR (rng_small hc.2.2.2 hc.2.1 hc.2.2.1) (rng_len hc.2.2.2) (Nat.le_trans hc.1 (by decide)) fun h' tk acc' c' kp hD hit=>?_
    have hv:=rngL_vrs (S:=S) (as:=as) (T:=T) (a:=a) (c:=c) (rngLen a b c) (k:=0) (acc:=acc'.toList) (by rw [Array.length_toList]; exact hit.1) (fun j v hj=>by
      obtain⟨t,ht⟩:=hit.2 j v (by simpa using hj)
      exact⟨t,by rw [ht]; simp⟩)
    rw [show a+((0:Nat):Int) * c=a by simp] at hv
    exact ret_new hr kp (by rw [hD]; simp [lst]; rfl) hv (by rw [List.length_map,rngL_len]; exact Nat.le_trans hc.1 (by decide)) q tk
  | _=>first | exact ff e | exact nn e | cases e
theorem range_ok {vs:List V} {v:V} {ws:List Value} (e:rangeV vs=some v) (hr:HR S as T H s.heap) (vv:VRs S.fa as T vs ws) (q:Ret S as T s H v Q):wpAny (model S.prog S.w) A (call (.type "range") ws) Q E s:=by
  cases vv with
  | nil=>first | exact ff e | exact nn e | cases e
  | cons v0 vv =>
    refine onI_some_k e fun a hx e1=>?_; subst hx; clear e; have e:=e1; clear e1
    obtain⟨t,rfl⟩:=intE v0
    cases vv with
    | nil =>
      obtain⟨hc,e⟩:=gd_some e
      cases e
      exact PySem.call_range_1 (new_rng hr q _)
    | cons v1 vv =>
      refine onI_some_k e fun b hx e1=>?_; subst hx; clear e; have e:=e1; clear e1
      obtain⟨u,rfl⟩:=intE v1
      cases vv with
      | nil =>
        obtain⟨hc,e⟩:=gd_some e
        cases e
        exact PySem.call_range_2 (new_rng hr q _)
      | cons v2 vv =>
        refine onI_some_k e fun c hx e1=>?_; subst hx; clear e; have e:=e1; clear e1
        obtain⟨x,rfl⟩:=intE v2
        obtain⟨hx,e1⟩:=on0_some e; subst hx; clear e; have e:=e1; clear e1
        cases vv
        obtain⟨hc,e⟩:=gd_some e
        cases e
        exact PySem.call_range_3 (by rcases hc.2.2 with z | z <;> omega) (new_rng hr q _) (.inl (one_div hc.2.2))
theorem prim_ok {p:Pr} {r:V} {vs:List V} {ws:List Value} (hh:A.handled=none) (e:primV p vs H=some (r,H')) (hr:HR S as T H s.heap) (vv:VRs S.fa as T vs ws) (q:Ret S as T s H' r Q) :
    wpAny (model S.prog S.w) A (call (primVal p) ws) Q E s:=by
  cases p with
  | len =>
    refine on1_some_k e fun a hx e1=>?_; subst hx; clear e; have e:=e1; clear e1
    refine vrs1_k vv fun w0 zq82=>?_
    subst zq82
    intro v0
    refine map_some_k e fun n e1 h=>?_
    cases h
    exact len_ok e1 hr v0 q
  | abs =>
    refine on1_some_k e fun a hx e1=>?_; subst hx; clear e; have e:=e1; clear e1
    refine vrs1_k vv fun w0 zq83=>?_
    subst zq83
    intro v0
    refine onI_some_k e fun i hx e1=>?_; subst hx; clear e; have e:=e1; clear e1
    cases e
    obtain⟨t,rfl⟩:=intE v0
    refine PyProof.Rows.call_abs_int fun u tk=>?_
    have:(if i<0 then -i else i)=(i.natAbs:Int):=by split <;> omega
    rw [this]
    exact q.tok hr (.int _ _) _
  | int =>
    refine on1_some_k e fun a hx e1=>?_; subst hx; clear e; have e:=e1; clear e1
    refine vrs1_k vv fun w0 zq84=>?_
    subst zq84
    intro v0
    refine map_some_k e fun n e1 h=>?_
    cases h
    exact int_ok e1 hr v0 q
  | chr=>exact nn e
  | ord=>exact nn e
  | list =>
    refine on1_some_k e fun a hx e1=>?_; subst hx; clear e; have e:=e1; clear e1
    refine vrs1_k vv fun w0 zq88=>?_
    subst zq88
    intro v0
    refine map_some_k e fun l e1 h=>?_
    cases h
    exact list_ok hh e1 hr v0 q
  | range =>
    refine map_some_k e fun v e1 h=>?_
    cases h
    exact range_ok e1 hr vv q
  | min=>cases e
  | str=>exact nn e
end
end Mine
namespace Mine
section
variable {S:Sur} {as as1:As} {T T1:TS} {H H':Hp} {h h' h1:Heap} {s:Shared} {v:V} {w:Value} {Q:Value→Shared→Prop} {A:Around} {E:Value→Shared→Prop}
noncomputable def bmTy:BM→String
  | .append=>"list" | .pop=>"list" | .extend=>"list" | .reverse=>"list" | .join=>"str" | .replace=>"str" | .startswith=>"str" | .lstrip=>"str" | .split=>"str" | .get=>"dict"
noncomputable def bmId:BM→String
  | .append=>"list.append" | .pop=>"list.pop" | .extend=>"list.extend" | .reverse=>"list.reverse" | .join=>"str.join" | .replace=>"str.replace" | .startswith=>"str.startswith" | .lstrip=>"str.lstrip" | .split=>"str.split" | .get=>"dict.get"
theorem strs_vals:∀ {ws:List Value} {ss:List (List Nat)},StrsAre ws (ss.map fun x=>(⟨x.toArray⟩:Str))→∃ l:List (Str×Tok),ws=strValues l∧l.map (·.1)=ss.map fun x=>(⟨x.toArray⟩:Str)
  | _,[],h=>by cases h; exact⟨[],rfl,rfl⟩
  | _,y::r,h=>by
    cases h with
    | cons _ t h' =>
      obtain⟨l,h1,h2⟩:=strs_vals h'
      exact⟨(_,t)::l,by rw [h1]; rfl,by rw [List.map_cons,h2,List.map_cons]⟩
theorem glue_cat (ss:List (List Nat)):Txt.join (⟨#[]⟩:Str) (ss.map fun x=>(⟨x.toArray⟩:Str))=⟨(catL ss).toArray⟩:=by
  have gen:∀(r:List (List Nat)) (acc:List Nat),(List.foldl (fun acc (p:Str)=>acc++(#[]:Array Nat)++p.cps) acc.toArray (r.map fun x=>(⟨x.toArray⟩:Str)))=(acc++catL r).toArray:=by
    intro r
    induction r with
    | nil=>intro acc; simp [catL_1,catL_2]
    | cons x r ih =>
      intro acc
      rw [List.map_cons,List.foldl_cons]
      have:acc.toArray++(#[]:Array Nat)++x.toArray=(acc++x).toArray:=by simp
      rw [this,ih,catL_2,List.append_assoc]
  cases ss with
  | nil=>rfl
  | cons x r =>
    show(⟨List.foldl (fun acc (p:Str)=>acc++(#[]:Array Nat)++p.cps) x.toArray (r.map fun x=>(⟨x.toArray⟩:Str))⟩:Str)=_
    rw [gen]; rfl
theorem sum_cat:∀(ss:List (List Nat)) (n:Nat),List.foldl (fun x1 (x2:Str)=>x1+x2.length+(⟨#[]⟩:Str).length) n (ss.map fun x=>(⟨x.toArray⟩:Str))=n+(catL ss).length
  | [],n=>rfl
  | x::r,n=>by
    rw [List.map_cons,List.foldl_cons,sum_cat r,catL_2,List.length_append,str_len]
    show n+x.length+0+_=_
    exact lnq [_,_,_] (.a (.a (.a (.v 0) (.v 1)) (.n 0)) (.v 2)) (.a (.v 0) (.a (.v 1) (.v 2))) rfl
theorem start_has:∀(t s:List Nat),Txt.startswith ⟨s.toArray⟩ ⟨t.toArray⟩=hasPre t s:=by
  have gen:∀(t s:List Nat),(s.take t.length == t)=hasPre t s:=by
    intro t
    induction t with
    | nil=>intro s; simp [hasPre_1,hasPre_2,hasPre_3]
    | cons a r ih =>
      intro s
      cases s with
      | nil=>rfl
      | cons b u =>
        rw [hasPre_3,← ih u,List.length_cons,List.take_succ_cons]
        show(b == a && List.take r.length u == r)=_
        congr 1
        rw [Bool.eq_iff_iff,beq_iff_eq,beq_iff_eq]
        exact eq_comm
  intro t s
  unfold Txt.startswith
  rw [StrLaws.subAt_eq,← gen t s,str_len,str_len]
  show(decide (0+t.length≤s.length) && (List.take t.length s == t))=_
  rw [Nat.zero_add]
  by_cases hle:t.length≤s.length
  · simp [hle]
  · have:¬ s.take t.length=t:=fun q=>by
      have:=congrArg List.length q
      simp at this; omega
    simp [hle,this]
theorem join_ok {n:Nat} {v:V} {wo w0:Value} (e:joinV H n=some v) (hr:HR S as T H s.heap) (vo:VR S.fa as T (.str []) wo) (v0:VR S.fa as T (.loc n) w0) (q:Ret S as T s H v Q) :
    wpAny (model S.prog S.w) A (call (.builtin "str.join") [wo,w0]) Q E s:=by
  refine atL_some_k e fun l hl e1=>?_
  refine strsOf'_some_k e1 fun ss hs e2=>?_
  obtain⟨hlen,he⟩:=gd_some e2
  cases he
  refine strE_k vo fun t zq90=>?_
  subst zq90
  intro hz
  refine listAtN_k hr hl v0 fun a us zq91=>?_
  subst zq91
  intro hL hz2 hv
  obtain⟨lt,h1,h2⟩:=strs_vals (strsE hs hv)
  subst h1
  refine SC.join (texts:=ss.map fun x=>(⟨x.toArray⟩:Str)) hL h2 ?_ fun t' k=>?_
  · unfold JoinOk
    rw [← Array.foldl_toList,List.toList_toArray,sum_cat]
    unfold Builtin.Str.tooLong
    simp only [Bool.not_eq_true',decide_eq_false_iff_not]
    have:=lim_size hlen
    show ¬ 0+(catL ss).length > sizeLine
    omega
  · rw [glue_cat]
    exact q.tok hr (.str _ _ hlen) _
theorem dget_ok {n:Nat} {k:List Nat} {es:List (List Nat×V)} {dv:V} {wo w0 w2:Value} (hl:H[n]? = some (.dict es)) (hr:HR S as T H s.heap) (vo:VR S.fa as T (.loc n) wo) (v0:VR S.fa as T (.str k) w0) (v2:VR S.fa as T dv w2) (q:Ret S as T s H ((lookS k es).getD dv) Q) :
    wpAny (model S.prog S.w) A (call (.builtin "dict.get") [wo,w0,w2]) Q E s:=by
  refine strE_k v0 fun t zq92=>?_
  subst zq92
  intro hz
  refine hr.dictAt_k hl vo fun a ds zq93=>?_
  subst zq93
  intro hp e1 hz2 hv
  have hd:(a == sysModules)=false:=by
    rw [beq_eq_false_iff_ne]
    have:=hr.big a (mem_owned hp).1
    exact Nat.ne_of_gt this
  have hm:=e1.mapOf
  refine call_meetsIn PySem.F.slot_dict_get hm.typeIs PySem.F.entry_dict_get (PySem.F.args_dict_get_3 _ _ _) (meets_dict_get_default (strKind S.prog S.w) (k:=⟨k.toArray⟩) a (strKind_is _ _ _ _) hd w2) ⟨_,hm,?_⟩
  have:=dr_at hv k
  cases hk:lookS k es with
  | some v =>
    rw [hk] at this q
    obtain⟨u,hu,vu⟩:=this
    rw [hu]
    exact q.tok hr vu _
  | none =>
    rw [hk] at this q
    rw [this]
    exact q.tok hr v2 _
theorem bm_ok {m:BM} {o r:V} {vs:List V} {wo:Value} {ws:List Value} (e:bmV m o vs H=some (r,H')) (hr:HR S as T H s.heap) (vo:VR S.fa as T o wo) (vv:VRs S.fa as T vs ws) (q:Ret S as T s H' r Q) :
    wpAny (model S.prog S.w) A (call (.builtin (bmId m)) (wo::ws)) Q E s:=by
  cases m with
  | append =>
    refine onN_some_k e fun n hx e1=>?_; subst hx
    refine on1_some_k e1 fun a hx e2=>?_; subst hx
    refine atL_some_k e2 fun l hl e3=>?_
    obtain⟨hc,he⟩:=gd_some e3
    cases he
    refine vrs1_k vv fun w0 zq94=>?_
    subst zq94
    intro v0
    exact append_ok hr vo v0 hl hc q
  | pop =>
    refine onN_some_k e fun n hx e1=>?_; subst hx
    obtain⟨hx,e2⟩:=on0_some e1; subst hx
    refine atL_some_k e2 fun l hl e3=>?_
    cases vv
    cases hv:l.getLast? with
    | none=>rw [hv] at e3; first | exact nn e3 | exact ff e3 | cases e3
    | some v=>rw [hv] at e3; cases e3; exact pop_ok hr vo hl hv q
  | extend =>
    refine onN_some_k e fun n hx e1=>?_; subst hx
    refine on1_some_k e1 fun a hx e2=>?_; subst hx
    refine onN_some_k e2 fun k hx e3=>?_; subst hx
    refine atL_some_k e3 fun l hl e4=>?_
    refine atL_some_k e4 fun m hm e5=>?_
    obtain⟨hc,he⟩:=gd_some e5
    cases he
    refine vrs1_k vv fun w0 zq95=>?_
    subst zq95
    intro v0
    exact extend_ok hr vo v0 hl hm hc.2 q
  | reverse =>
    refine onN_some_k e fun n hx e1=>?_; subst hx
    obtain⟨hx,e2⟩:=on0_some e1; subst hx
    refine atL_some_k e2 fun l hl e3=>?_
    cases e3
    cases vv
    exact reverse_ok hr vo hl q
  | join =>
    refine onS_some_k e fun x hx e1=>?_; subst hx
    refine on1_some_k e1 fun a hx e2=>?_; subst hx
    refine onN_some_k e2 fun n hx e3=>?_; subst hx
    refine vrs1_k vv fun w0 zq96=>?_
    subst zq96
    intro v0
    cases x with
    | cons=>first | exact ff e3 | exact nn e3 | cases e3
    | nil =>
      refine map_some_k e3 fun v e4 he=>?_
      cases he
      exact join_ok e4 hr vo v0 q
  | replace=>cases e
  | startswith =>
    refine onS_some_k e fun x hx e1=>?_; subst hx
    refine on1_some_k e1 fun a hx e2=>?_; subst hx
    refine onS_some_k e2 fun y hx e3=>?_; subst hx
    cases e3
    refine vrs1_k vv fun w0 zq97=>?_
    subst zq97
    intro v0
    refine strE_k vo fun t zq98=>?_
    subst zq98
    intro hz
    refine strE_k v0 fun u zq99=>?_
    subst zq99
    intro hz2
    refine SC.startswith ?_
    rw [start_has]
    exact q.now hr (.bool _)
  | lstrip=>cases e
  | split=>cases e
  | get =>
    refine onN_some_k e fun n hx e1=>?_; subst hx
    refine on2_some_k e1 fun a dv hx e2=>?_; subst hx
    refine onS_some_k e2 fun k hx e3=>?_; subst hx
    refine atD_some_k e3 fun es hl e4=>?_
    cases e4
    refine vrs2_k vv fun w0 w2 zq100=>?_
    subst zq100
    intro v0 v2
    exact dget_ok hl hr vo v0 v2 q
theorem slice_list {items:Array Value}:slicePick items none (some 0) (some (-1))=((items.toList.drop 1).reverse).toArray:=by
  unfold slicePick
  have hb:sliceBounds none (some 0) (some (-1)) items.size=((items.size:Int) - 1,(if items.size=0 then -1 else 0),-1):=by
    unfold sliceBounds
    simp only [Option.getD_some,show ¬ ((-1:Int) > 0) by decide,if_false,show ¬ ((0:Int)<0) by decide]
    congr 2
    split <;> omega
  rw [hb]
  have hr:sliceRange ((items.size:Int) - 1) (if items.size=0 then -1 else 0) (-1)=(List.range (items.size - 1)).map fun k=>items.size - 1 - k:=by
    unfold sliceRange
    have h1:¬ ((-1:Int) > 0):=by decide
    by_cases h0:items.size=0
    · rw [h0]; simp
    · rw [if_neg h0]
      by_cases h:(items.size:Int) - 1 > 0
      · have e:((items.size:Int) - 1 - 0 - -1 - 1) / (- -1)=((items.size - 1:Nat):Int):=by
          rw [show(- -1:Int)=1 by decide,Int.ediv_one]
          omega
        simp only [h1,if_false,h,if_true,e,Int.toNat_natCast]
        apply List.map_congr_left
        intro k hk
        have:=List.mem_range.mp hk
        omega
      · have e:items.size=1:=by omega
        rw [e]; simp
  show((sliceRange ((items.size:Int) - 1) (if items.size=0 then -1 else 0) (-1)).filterMap (items[·]?)).toArray=_
  rw [hr]
  have hrev:(List.range (items.size - 1)).map (fun k=>items.size - 1 - k)=((List.range (items.size - 1)).map (1 + ·)).reverse:=by
    rw [← List.map_reverse,← krv_range,List.map_map]
    apply List.map_congr_left
    intro k hk
    have:=List.mem_range.mp hk
    show _=1+(items.size - 1 - 1 - k)
    omega
  rw [hrev,List.filterMap_reverse,pick_run,List.take_of_length_le (by rw [List.length_drop,Array.length_toList]; exact Nat.le_refl _)]
theorem str_pick {x:List Nat} {lo hi:Option (Int×Tok)}:slicePicked ⟨x.toArray⟩ lo hi none=sliceRange (sliceBounds (lo.map (·.1)) (hi.map (·.1)) none x.length).1 (sliceBounds (lo.map (·.1)) (hi.map (·.1)) none x.length).2.1 1:=by
  unfold slicePicked
  rw [str_len]
  rfl
theorem str_slice {x:List Nat} {t:Tok} {lo hi:Option (Int×Tok)} {sl:Addr} (hs:s.heap.IsSlice sl lo hi none) (hx:x.length≤lim)
    (q:∀ t' k,Q (.str ⟨((x.drop (kms_lo (lo.map (·.1)) x.length)).take (kms_hi (hi.map (·.1)) x.length - kms_lo (lo.map (·.1)) x.length)).toArray⟩ t') { s with toks:=k }):wpAny (model S.prog S.w) A (getItem (.str ⟨x.toArray⟩ t) (.ref sl)) Q E s:=by
  have hp:(slicePicked ⟨x.toArray⟩ lo hi none).filterMap (x.toArray[·]?)=(x.drop (kms_lo (lo.map (·.1)) x.length)).take (kms_hi (hi.map (·.1)) x.length - kms_lo (lo.map (·.1)) x.length):=by
    rw [str_pick,kms_bounds]
    show(sliceRange _ _ 1).filterMap _=_
    rw [sliceRange_one,pick_run]
  have hlen:(slicePicked ⟨x.toArray⟩ lo hi none).length=x.length→(x.drop (kms_lo (lo.map (·.1)) x.length)).take (kms_hi (hi.map (·.1)) x.length - kms_lo (lo.map (·.1)) x.length)=x:=by
    intro hl
    rw [str_pick,kms_bounds] at hl
    have hl:(sliceRange (kms_lo (lo.map (·.1)) x.length:Nat) (kms_hi (hi.map (·.1)) x.length:Nat) 1).length=x.length:=hl
    rw [sliceRange_one,List.length_map,List.length_range] at hl
    have h2:kms_hi (hi.map (·.1)) x.length≤x.length:=by
      unfold kms_hi
      split
      · exact Nat.le_refl _
      · split <;> omega
    have h3:kms_lo (lo.map (·.1)) x.length=0∨x.length=0:=by omega
    rcases h3 with h3 | h3
    · rw [h3,List.drop_zero,List.take_of_length_le (by omega)]
    · have:x=[]:=List.length_eq_zero_iff.mp h3
      subst this; simp
  refine wpAny_getItem_str_slice hs (by rfl) ?_
  unfold sliceMade
  split
  · rename_i hc
    simp only [Bool.and_eq_true,beq_iff_eq] at hc
    have:=hlen (by rw [hc.2,str_len])
    show Q (.str ⟨x.toArray⟩ t) s
    have q:=q t s.toks
    rw [this] at q
    exact q
  · show(⟨((slicePicked ⟨x.toArray⟩ lo hi none).filterMap (x.toArray[·]?)).toArray⟩:Str).length≤sizeLine∧Q (.str ⟨((slicePicked ⟨x.toArray⟩ lo hi none).filterMap (x.toArray[·]?)).toArray⟩ s.toks) { s with toks:=s.toks+1 }
    rw [hp,str_len]
    refine⟨Nat.le_trans ?_ (lim_size hx),q _ _⟩
    rw [List.length_take,List.length_drop]; omega
theorem slice_str_ok {x:List Nat} {lo hi st:V} {t:List Nat} {wa wl wu wt:Value} {sl:Addr} (ht:sliceL x lo hi st=some t) (hr:HR S as T H s.heap) (va:VR S.fa as T (.str x) wa) (vl:VR S.fa as T lo wl) (vu:VR S.fa as T hi wu) (vt:VR S.fa as T st wt)
    (hsl:s.heap.IsSliceOf sl wl wu wt) (q:Ret S as T s H (.str t) Q):wpAny (model S.prog S.w) A (getItem wa (.ref sl)) Q E s:=by
  refine strE_k va fun tk zq101=>?_
  subst zq101
  intro hz
  obtain⟨o,ho,hc,hd⟩:=hsl
  obtain⟨rfl,ht⟩:=noneV_some ht
  cases noneE vt
  cases lo with
  | none =>
    refine onI_some_k ht fun j zq102=>?_
    subst zq102
    intro ht
    obtain⟨hj,rfl⟩:=gd_some ‹_›
    obtain⟨u,rfl⟩:=intE vu
    cases noneE vl
    refine str_slice (lo:=none) (hi:=some (j,u)) ⟨o,ho,hc,hd⟩ hz fun t' k=>?_
    have:(x.drop (kms_lo none x.length)).take (kms_hi (some j) x.length - kms_lo none x.length)=x.take j.toNat:=by
      simp only [kms_lo,kms_hi,List.drop_zero,Nat.sub_zero,show ¬ j<0 by omega,if_false]
      by_cases hle:j.toNat≤x.length
      · rw [Nat.min_eq_left hle]
      · rw [Nat.min_eq_right (by omega),List.take_of_length_le (Nat.le_refl _),List.take_of_length_le (by omega)]
    show Q (.str ⟨((x.drop (kms_lo none x.length)).take (kms_hi (some j) x.length - kms_lo none x.length)).toArray⟩ t') _
    rw [this]
    exact q.tok hr (.str _ _ (by rw [List.length_take]; omega)) _
  | int i =>
    obtain⟨u,rfl⟩:=intE vl
    cases hi with
    | none =>
      obtain⟨hi',rfl⟩:=gd_some ht
      cases noneE vu
      refine str_slice (lo:=some (i,u)) (hi:=none) ⟨o,ho,hc,hd⟩ hz fun t' k=>?_
      have:(x.drop (kms_lo (some i) x.length)).take (kms_hi none x.length - kms_lo (some i) x.length)=x.drop i.toNat:=by
        simp only [kms_lo,kms_hi,show ¬ i<0 by omega,if_false]
        by_cases hle:i.toNat≤x.length
        · rw [Nat.min_eq_left hle,List.take_of_length_le (by rw [List.length_drop]; exact Nat.le_refl _)]
        · rw [Nat.min_eq_right (by omega),List.drop_of_length_le (Nat.le_refl _),List.drop_of_length_le (by omega)]; simp
      show Q (.str ⟨((x.drop (kms_lo (some i) x.length)).take (kms_hi none x.length - kms_lo (some i) x.length)).toArray⟩ t') _
      rw [this]
      exact q.tok hr (.str _ _ (by rw [List.length_drop]; omega)) _
    | int j =>
      obtain⟨hij,rfl⟩:=gd_some ht
      obtain⟨u',rfl⟩:=intE vu
      refine str_slice (lo:=some (i,u)) (hi:=some (j,u')) ⟨o,ho,hc,hd⟩ hz fun t' k=>?_
      have:(x.drop (kms_lo (some i) x.length)).take (kms_hi (some j) x.length - kms_lo (some i) x.length)=(x.take j.toNat).drop i.toNat:=by
        simp only [kms_lo,kms_hi,show ¬ i<0 by omega,show ¬ j<0 by omega,if_false]
        rw [List.drop_take]
        by_cases hle:i.toNat≤x.length
        · rw [Nat.min_eq_left hle]
          by_cases hle2:j.toNat≤x.length
          · rw [Nat.min_eq_left hle2]
          · rw [Nat.min_eq_right (by omega),List.take_of_length_le (by rw [List.length_drop]; exact Nat.le_refl _),List.take_of_length_le (by rw [List.length_drop]; omega)]
        · rw [Nat.min_eq_right (a:=i.toNat) (by omega),List.drop_of_length_le (Nat.le_refl _),List.drop_of_length_le (by omega)]; simp
      show Q (.str ⟨((x.drop (kms_lo (some i) x.length)).take (kms_hi (some j) x.length - kms_lo (some i) x.length)).toArray⟩ t') _
      rw [this]
      exact q.tok hr (.str _ _ (by rw [List.length_drop,List.length_take]; omega)) _
    | _=>first | exact ff ht | exact nn ht | cases ht
  | _=>first | exact ff ht | exact nn ht | cases ht
theorem take_pick (ws:List Value) {j:Int} (hj:0≤j):kms_pick ws none (some j)=ws.take j.toNat:=by
  simp only [kms_pick,kms_lo,kms_hi,List.drop_zero,Nat.sub_zero,show ¬ j<0 by omega,if_false]
  by_cases hle:j.toNat≤ws.length
  · rw [Nat.min_eq_left hle]
  · rw [Nat.min_eq_right (by omega),List.take_of_length_le (Nat.le_refl _),List.take_of_length_le (by omega)]
theorem slice_new {l:List V} {ws:List Value} (hr:HR S as T H s.heap) (hv:VRs S.fa as T l ws) (hl:l.length≤lim) (q:Ret S as T s (H++[.list l]) (.loc H.length) Q):Q (.ref s.heap.objs.size) { s with heap:=s.heap.push { cls:=.type "list",data:=.seq ws.toArray } } :=
  ret_new hr (keep_push (lst _ 0)) (Heap.get?_push_size _ rfl) hv hl q s.toks
theorem slice_list_ok {l t:List V} {a:Addr} {ws:List Value} {lo hi st:V} {wl wu wt:Value} {sl:Addr} (ht:sliceR l lo hi st=some t) (hr:HR S as T H s.heap) (hL:s.heap.IsList a ws.toArray) (hz:l.length≤lim) (hv:VRs S.fa as T l ws) (vl:VR S.fa as T lo wl) (vu:VR S.fa as T hi wu) (vt:VR S.fa as T st wt)
    (hsl:s.heap.IsSliceOf sl wl wu wt) (q:Ret S as T s (H++[.list t]) (.loc H.length) Q):wpAny (model S.prog S.w) A (getItem (.ref a) (.ref sl)) Q E s:=by
  have hfit:ws.toArray.size≤sizeLine:=by rw [List.size_toArray,hv.length]; exact lim_size hz
  obtain⟨rfl,ht⟩:=noneV_some ht
  cases noneE vl
  cases hi with
  | none =>
    cases noneE vu
    refine onI_some_k ht fun k hk e1=>?_; subst hk
    obtain⟨rfl,rfl⟩:=gd_some e1
    obtain⟨u,rfl⟩:=intE vt
    refine wpAny_getItem_list_slice hL hsl .none .none (.int (-1) u) (by simp) ?_ hfit
    rw [krv_pick,List.toList_toArray]
    exact slice_new hr hv.reverse (by simpa using hz) q
  | int j =>
    obtain⟨u,rfl⟩:=intE vu
    cases st with
    | none =>
      obtain⟨hj,rfl⟩:=gd_some ht
      cases noneE vt
      refine wpAny_getItem_list_slice hL hsl .none (.int j u) .none (by simp) ?_ hfit
      rw [kms_pick_eq,List.toList_toArray,take_pick ws hj]
      exact slice_new hr (hv.take _) (by rw [List.length_take]; omega) q
    | int k =>
      obtain⟨⟨rfl,rfl⟩,rfl⟩:=gd_some ht
      obtain⟨u',rfl⟩:=intE vt
      refine wpAny_getItem_list_slice hL hsl .none (.int 0 u) (.int (-1) u') (by simp) ?_ hfit
      rw [slice_list,List.toList_toArray]
      exact slice_new hr (hv.drop 1).reverse (by simp; exact Nat.not_lt.mp (lin [_,_] (.c 1 (.v 0) (.v 1) (.c 1 (.a (.a (.v 1) (.n 1)) (.n 1)) (.v 0) .z)) rfl hz)) q
    | _=>first | exact ff ht | exact nn ht | cases ht
  | _=>first | exact ff ht | exact nn ht | cases ht
theorem list_subI {a:Addr} {ws:List Value} (hL:s.heap.IsList a ws.toArray):Sub s (.ref a):=by
  obtain⟨o,g1,g2,_⟩:=hL; exact⟨_,_,⟨_,g1,g2⟩,PySem.slot_list_getitem.lookup⟩
theorem slice_ok {a lo hi st r:V} {wa wl wu wt:Value} {sl:Addr} (e:sliceV a lo hi st H=some (r,H')) (hr:HR S as T H s.heap) (va:VR S.fa as T a wa) (vl:VR S.fa as T lo wl) (vu:VR S.fa as T hi wu) (vt:VR S.fa as T st wt)
    (hsl:s.heap.IsSliceOf sl wl wu wt) (q:Ret S as T s H' r Q):Sub s wa∧wpAny (model S.prog S.w) A (getItem wa (.ref sl)) Q E s:=by
  cases a with
  | str x =>
    refine map_some_k e fun t ht he=>?_
    cases he
    refine strE_k va fun tk hw hz=>?_
    exact⟨hw▸⟨_,_,rfl,PySem.F.slot_str_getitem.lookup⟩,slice_str_ok ht hr va vl vu vt hsl q⟩
  | ro l =>
    obtain⟨hn,e1⟩:=noneV_some e; subst hn
    obtain⟨hn,e2⟩:=noneV_some e1; subst hn
    refine onI_some_k e2 fun j hj' e3=>?_; subst hj'
    obtain⟨hj,he⟩:=gd_some e3
    cases he
    cases va with
    | ro tt hz hv =>
      rename_i a ws
      have hL:s.heap.IsList a ws.toArray:=hr.im _ _ tt
      obtain⟨u,rfl⟩:=intE vu
      cases noneE vl; cases noneE vt
      refine⟨list_subI hL,wpAny_getItem_list_slice hL hsl .none (.int j u) .none (by simp) ?_ (by rw [List.size_toArray,hv.length]; exact lim_size hz)⟩
      rw [kms_pick_eq,List.toList_toArray,take_pick ws hj]
      exact slice_new hr (hv.take _) (by rw [List.length_take]; omega) q
  | loc n =>
    refine atL_some_k e fun l hl e1=>?_
    refine map_some_k e1 fun t ht he=>?_
    cases he
    refine listAtN_k hr hl va fun a ws zq103=>?_
    subst zq103
    intro hL hz hv
    exact⟨list_subI hL,slice_list_ok ht hr hL hz hv vl vu vt hsl q⟩
  | _=>first | exact ff e | exact nn e | cases e
end
end Mine
namespace Mine
structure AOkC (A:Around) (d:Nat):Prop where
  handled:A.handled=none
  depth:A.depth+4 * d+6≤1000
  units:A.units+32 * d+180≤9900
theorem AOk.c {A:Around} {d:Nat} (x:AOk A d):AOkC A d:=⟨x.handled,by have:=x.depth; exact Nat.not_lt.mp (lin [_,_] (.c 1 (.a (.a (.v 0) (.m 4 (.v 1))) (.n 8)) (.n 1000) (.c 1 (.a (.n 1000) (.n 1)) (.a (.a (.v 0) (.m 4 (.v 1))) (.n 6)) .z)) rfl this),by have:=x.units; exact Nat.not_lt.mp (lin [_,_] (.c 1 (.a (.a (.v 0) (.m 32 (.v 1))) (.n 200)) (.n 9900) (.c 1 (.a (.n 9900) (.n 1)) (.a (.a (.v 0) (.m 32 (.v 1))) (.n 180)) .z)) rfl this)⟩
theorem AOk.u {A:Around} {d:Nat} (x:AOk A d):A.units+64<cLine:=by
  have:=x.units
  show A.units+64<9900
  exact Nat.not_le.mp (lin [_,_] (.c 1 (.a (.a (.v 0) (.m 32 (.v 1))) (.n 200)) (.n 9900) (.c 1 (.n 9900) (.a (.v 0) (.n 64)) .z)) rfl this)
noncomputable def CallOk (S:Sur) (call:CallT) (d:Nat):Prop:=∀ {k:Nat} {vs:List V} {H H':Hp} {v:V},call k vs H=some (v,H') →
  ∀ {A:Around} {s:Shared} {as:As} {T:TS} {R:Result→Shared→Prop} {a:Addr} {ws:List Value},AOkC A d→S.fa[k]? = some a→HR S as T H s.heap→VRs S.fa as T vs ws →
    Ret S as T s H' v (fun w s'=>R (.ok (.ret w)) s')→codeAny (model S.prog S.w) A (Code.call (.ref a) { pos:=ws }) R s
section
variable {S:Sur} {as as1:As} {T T1:TS} {H H':Hp} {h h' h1:Heap} {s:Shared} {v:V} {w:Value} {Q:Value→Shared→Prop} {A:Around} {E:Value→Shared→Prop}
theorem bm_slots_k (m:BM) {zg:Prop} (zk:(PlainAttrs (bmTy m))→(Slot (bmTy m) (bmName m) (bmId m))→(typeOf (.builtin (bmId m))=pure (.type "method_descriptor"))→zg):zg:=by
  obtain⟨zh1,zh2,zh3⟩:PlainAttrs (bmTy m)∧Slot (bmTy m) (bmName m) (bmId m)∧typeOf (.builtin (bmId m))=pure (.type "method_descriptor"):=by
    cases m
    · exact⟨PySem.F.plainAttrs_list,PySem.F.slot_list_append,PySem.F.type_list_append⟩
    · exact⟨PySem.F.plainAttrs_list,PySem.F.slot_list_pop,PySem.F.type_list_pop⟩
    · exact⟨PySem.F.plainAttrs_list,PySem.F.slot_list_extend,PySem.F.type_list_extend⟩
    · exact⟨PySem.F.plainAttrs_list,PySem.F.slot_list_reverse,PySem.F.type_list_reverse⟩
    · exact⟨PySem.F.plainAttrs_str,PySem.F.slot_str_join,PySem.F.type_str_join⟩
    · exact⟨PySem.F.plainAttrs_str,PySem.F.slot_str_replace,PySem.F.type_str_replace⟩
    · exact⟨PySem.F.plainAttrs_str,PySem.F.slot_str_startswith,PySem.F.type_str_startswith⟩
    · exact⟨PySem.F.plainAttrs_str,PySem.F.slot_str_lstrip,PySem.F.type_str_lstrip⟩
    · exact⟨PySem.F.plainAttrs_str,PySem.F.slot_str_split,PySem.F.type_str_split⟩
    · exact⟨PySem.F.plainAttrs_dict,PySem.F.slot_dict_get,PySem.F.type_dict_get⟩
  exact zk zh1 zh2 zh3
theorem bm_kind {m:BM} {o:V} {wo:Value} (e:bmK m o H=true) (hr:HR S as T H s.heap) (vo:VR S.fa as T o wo) :
    s.TypeIs wo (bmTy m)∧∀ a,wo=.ref a→∃ ob,s.heap.get? a=some ob∧ob.dict=none:=by
  cases o with
  | str s =>
    refine strE_k vo fun t zq104=>?_
    subst zq104
    intro _
    cases m <;> first | exact ff e | exact⟨rfl,fun a q=>by cases q⟩
  | loc n =>
    have e:(match H[n]? with
      | some (.list _)=>(match (generalizing:=false) m with | .append=>true | .pop=>true | .extend=>true | .reverse=>true | _=>false)
      | some (.dict _)=>(match (generalizing:=false) m with | .get=>true | _=>false)
      | _=>false)=true:=e
    cases h:H[n]? with
    | none=>rw [h] at e; exact ff e
    | some ob =>
      rw [h] at e
      cases ob with
      | list l =>
        refine hr.listAt_k h vo fun a ws k zq105=>?_
        subst zq105
        intro hp e1 hz hv
        cases m <;> first | exact ff e | exact⟨⟨_,e1,rfl⟩,fun b q=>by cases q; exact⟨_,e1,rfl⟩⟩
      | dict es =>
        refine hr.dictAt_k h vo fun a ds zq106=>?_
        subst zq106
        intro hp e1 hz hv
        obtain⟨ob,es',ep,g,x,_⟩:=e1
        cases m <;> first | exact ff e | exact⟨⟨_,g,x.1⟩,fun b q=>by cases q; exact⟨_,g,x.2.1⟩⟩
      | _=>exact ff e
  | _=>exact ff e
end
end Mine
namespace Mine
noncomputable def RetB (S:Sur) (as:As) (T:TS) (s:Shared) (H':Hp) (b:Bool) (Q:Bool→Shared→Prop):Prop :=
  ∀ h' tk as' T',Ext Nil as T s.heap as' T' h'→HR S as' T' H' h'→Q b { s with heap:=h',toks:=tk }
noncomputable def RetL (S:Sur) (as:As) (T:TS) (s:Shared) (H':Hp) (vs:List V) (Q:List Value→Shared→Prop):Prop :=
  ∀ ws h' tk as' T',Ext Nil as T s.heap as' T' h'→HR S as' T' H' h'→VRs S.fa as' T' vs ws→Q ws { s with heap:=h',toks:=tk }
noncomputable def EvS (S:Sur) (call:CallT) (d:Nat) (e:ME):Prop:=∀ {l:Lo} {H H':Hp} {v:V},evE S.P call e l H=some (v,H') →
  ∀ {nm:Nms} {sl:Sl} {x:Expr} {s:Shared} {as:As} {T:TS} {env:Env} {A:Around} {E Q:Value→Shared→Prop},AOk A d→chE S.G e nm sl x=true→ER S as T env nm sl l s.heap→HR S as T H s.heap →
    Ret S as T s H' v Q→wpAny (model S.prog S.w) A (eval x env) Q E s
noncomputable def TrS (S:Sur) (call:CallT) (d:Nat) (e:ME):Prop:=∀ {l:Lo} {H H':Hp} {b:Bool},evE S.P call e l H=some (.bool b,H') →
  ∀ {nm:Nms} {sl:Sl} {x:Expr} {s:Shared} {as:As} {T:TS} {env:Env} {A:Around} {E:Value→Shared→Prop} {Q:Bool→Shared→Prop},AOk A d→chE S.G e nm sl x=true→ER S as T env nm sl l s.heap→HR S as T H s.heap →
    RetB S as T s H' b Q→wpAny (model S.prog S.w) A (PySem.isTrue x env (eval x env)) Q E s
noncomputable def EvLS (S:Sur) (call:CallT) (d:Nat) (es:List ME):Prop:=∀ {l:Lo} {H H':Hp} {vs:List V},evL S.P call es l H=some (vs,H') →
  ∀ {nm:Nms} {sl:Sl} {xs:List Expr} {s:Shared} {as:As} {T:TS} {env:Env} {A:Around} {E:Value→Shared→Prop} {Q:List Value→Shared→Prop} {pos:Pos},AOk A d→chL S.G es nm sl xs=true→ER S as T env nm sl l s.heap→HR S as T H s.heap →
    RetL S as T s H' vs Q→wpAny (model S.prog S.w) A (spliced (backTo pos (starEach xs env))) Q E s
section
variable {S:Sur} {call:CallT} {d:Nat}
theorem RetB.from {as as1:As} {T T1:TS} {s:Shared} {H':Hp} {h1:Heap} {b:Bool} {Q:Bool→Shared→Prop} {tk:Tok} (k:RetB S as T s H' b Q) (e:Ext Nil as T s.heap as1 T1 h1):RetB S as1 T1 { s with heap:=h1,toks:=tk } H' b Q :=
  fun h' tk' as' T' e' hr=>k h' tk' as' T' (e.trans e') hr
theorem RetL.from {as as1:As} {T T1:TS} {s:Shared} {H':Hp} {h1:Heap} {vs:List V} {Q:List Value→Shared→Prop} {tk:Tok} (k:RetL S as T s H' vs Q) (e:Ext Nil as T s.heap as1 T1 h1):RetL S as1 T1 { s with heap:=h1,toks:=tk } H' vs Q :=
  fun w h' tk' as' T' e' hr vr=>k w h' tk' as' T' (e.trans e') hr vr
theorem tr_of_ev {e:ME} {x:Expr} {l:Lo} {H H':Hp} {b:Bool} {nm:Nms} {sl:Sl} {s:Shared} {as:As} {T:TS} {env:Env} {A:Around} {E:Value→Shared→Prop} {Q:Bool→Shared→Prop}
    (he:PySem.isTrue x env (eval x env)=(do let v ← eval x env; standAt x.pos; holding [v] (truthy v))) (h:EvS S call d e) (e1:evE S.P call e l H=some (.bool b,H')) (ao:AOk A d) (c:chE S.G e nm sl x=true)
    (er:ER S as T env nm sl l s.heap) (hr:HR S as T H s.heap) (q:RetB S as T s H' b Q):wpAny (model S.prog S.w) A (PySem.isTrue x env (eval x env)) Q E s:=by
  refine wpAny_isTrue_value (h e1 ao c er hr fun w h' tk as' T' x' hr' vr=>?_) he
  cases boolE vr
  exact wpAny_truthy_bool (q h' tk as' T' x' hr')
theorem noStar1 {x:Expr} (h:notStar x=true) (rest:List Expr) (env:Env):starEach (x::rest) env=(false,eval x env)::starEach rest env:=by
  cases x <;> first | rfl | cases h
noncomputable def noStar:List Expr→Bool
  | []=>true
  | x::r=>notStar x && noStar r
theorem noStar_1 :noStar ([])=(true):=rfl
theorem noStar_2  {x r}:noStar (x::r)=(notStar x && noStar r):=rfl
theorem chL_star {G:Str→Option GV} {nm:Nms} {sl:Sl}:∀ {es:List ME} {xs:List Expr},chL G es nm sl xs=true→noStar xs=true
  | [],[],_=>rfl
  | [],_::_,h=>ff h
  | _::_,[],h=>ff h
  | e::r,x::ys,h=>by
    simp only [chL_1,chL_2,Bool.and_eq_true] at h
    simp only [noStar_1,noStar_2,h.1.1,chL_star h.2,Bool.and_self]
theorem star_any {pos:Pos} {env:Env}:∀ {xs:List Expr},noStar xs=true→(backTo pos (starEach xs env)).any (·.1)=false
  | [],_=>rfl
  | x::r,h=>by
    simp only [noStar_1,noStar_2,Bool.and_eq_true] at h
    rw [noStar1 h.1]
    show(false || (backTo pos (starEach r env)).any (·.1))=false
    rw [star_any h.2]; rfl
theorem args_ok {M:Model} {A:Around} {E:Value→Shared→Prop} {s:Shared} {env:Env} {pos:Pos} {f:Value} {xs:List Expr} {Q:Args→Shared→Prop} (h:noStar xs=true)
    (k:wpAny M A (spliced (backTo pos (starEach xs env))) (fun vs s'=>Q { pos:=vs } s') E s):wpAny M A (evalArgs f true (backTo pos (starEach xs env)) []) Q E s:=by
  cases xs with
  | nil=>exact wpAny_bind (m:=spliced []) (wpAny_mono k (fun vs s' h'=>wpAny_bind (wpAny_pure (wpAny_holding (wpAny_bind (wpAny_pure (wpAny_pure h'))))) ) fun _ _ x=>x)
  | cons x r =>
    simp only [noStar_1,noStar_2,Bool.and_eq_true] at h
    rw [noStar1 h.1] at k ⊢
    exact Calls.evalArgs_plain k
theorem evL_len {P:Pg} {call:CallT}:∀ {es:List ME} {l:Lo} {H H':Hp} {vs:List V},evL P call es l H=some (vs,H')→vs.length=es.length
  | [],_,_,_,_,e=>by rw [evL_1] at e; cases e; rfl
  | _::r,_,_,_,_,e=>by
    rw [evL_2] at e
    refine bnd_some_k e fun a H1 e1 e=>?_
    refine bnd_some_k e fun b H2 e2 e=>?_
    cases e
    rw [List.length_cons,evL_len e2,List.length_cons]
theorem l_nil:EvLS S call d []:=by
  intro l H H' vs e nm sl xs s as T env A E Q pos ao c er hr q
  rw [evL_1] at e; cases e
  cases xs with
  | nil=>exact spliced_none (q [] s.heap s.toks as T (.refl ..) hr .nil)
  | cons=>simp [chL_1,chL_2] at c
theorem l_cons {e:ME} {r:List ME} (he:EvS S call d e) (hl:EvLS S call d r):EvLS S call d (e::r):=by
  intro l H H' vs e nm sl xs s as T env A E Q pos ao c er hr q
  rw [evL_2] at e
  refine bnd_some_k e fun a H1 e1 e=>?_
  refine bnd_some_k e fun b H2 e2 e=>?_
  cases e
  cases xs with
  | nil=>simp [chL_1,chL_2] at c
  | cons x ys =>
    simp only [chL_1,chL_2,Bool.and_eq_true] at c
    refine spliced_more (he e1 ao c.1.2 er hr fun wa h1 tk1 as1 T1 x1 hr1 ra=>?_) (noStar1 c.1.1 _ _)
    exact hl e2 ao c.2 (er.ext x1) hr1 fun ws h2 tk2 as2 T2 x2 hr2 rb=>q _ _ _ _ _ (x1.trans x2) hr2 (.cons (ra.mono x2.mono) rb)
theorem s_bad:EvS S call d .bad:=fun e=>nn e
theorem s_lit {u:V}:EvS S call d (.lit u):=by
  intro l H H' v e nm sl x s as T env A E Q ao c er hr q
  obtain⟨rfl,rfl⟩:=ev_lit e
  refine ch_lit_k c fun k y z c1=>?_
  cases u with
  | none=>cases k with
    | none=>exact PyProof.Rows.Constant_none (q.now hr .none)
    | _=>exact ff c1
  | bool a=>cases k with
    | bool b=>cases beq_iff_eq.mp c1; exact PyProof.Rows.Constant_bool (q.now hr (.bool _))
    | _=>exact ff c1
  | int a=>cases k with
    | int b=>cases beq_iff_eq.mp c1; exact wpAny_Constant_int (q.tok hr (.int _ _) _)
    | _=>exact ff c1
  | str a=>cases k with
    | str b =>
      obtain⟨c2,c3⟩:=and2 c1
      have:=beq_iff_eq.mp c2
      subst this
      exact PySem.wpAny_Constant_str (q.tok hr (.str b.cps.toList s.toks (by have:=of_decide_eq_true c3; unfold lim; exact Nat.not_lt.mp (lin [_] (.c 1 (.v 0) (.n 1000) (.c 1 (.a (.n 1048576) (.n 1)) (.v 0) .z)) rfl this))) _)
    | _=>exact ff c1
  | _=>exact ff c1
theorem s_loc {i:Nat}:EvS S call d (.loc i):=by
  intro l H H' v e nm sl x s as T env A E Q ao c er hr q
  obtain⟨hu,rfl⟩:=ev_loc e
  refine ch_loc_k c fun n p c1=>?_
  exact name_loc er c1 hu fun w vr=>q.now hr vr
mutual
theorem sameV_eq:∀ {u v:V},sameV u v=true→u=v
  | .none,v,h=>by cases v with
    | none=>rfl
    | _=>exact ff h
  | .bool a,v,h=>by cases v with
    | bool b=>rw [beq_iff_eq.mp h]
    | _=>exact ff h
  | .int a,v,h=>by cases v with
    | int b=>rw [beq_iff_eq.mp h]
    | _=>exact ff h
  | .str a,v,h=>by cases v with
    | str b=>rw [beq_iff_eq.mp h]
    | _=>exact ff h
  | .fn a,v,h=>by cases v with
    | fn b=>rw [beq_iff_eq.mp h]
    | _=>exact ff h
  | .tup a,v,h=>by cases v with
    | tup b=>rw [sameVs_eq (u:=a) (v:=b) h]
    | _=>exact ff h
  | .loc _,v,h=>by cases v <;> exact ff h
  | .rng _ _ _,v,h=>by cases v <;> exact ff h
  | .ro _,v,h=>by cases v <;> exact ff h
theorem sameVs_eq:∀ {u v:List V},sameVs u v=true→u=v
  | [],v,h=>by cases v with
    | nil=>rfl
    | cons=>exact ff h
  | a::r,v,h=>by cases v with
    | nil=>exact ff h
    | cons b t=>rw [sameV_eq (and2 h).1,sameVs_eq (and2 h).2]
end
theorem s_glob (C:Cx S) {u:V}:EvS S call d (.glob u):=by
  intro l H H' v e nm sl x s as T env A E Q ao c er hr q
  obtain⟨rfl,rfl⟩:=ev_glob e
  refine ch_glob_k c fun n p c0=>?_
  refine gIs_spec_k c0 fun hn g hg c1=>?_
  cases g with
  | fn k =>
    cases u with
    | fn j =>
      cases beq_iff_eq.mp c1
      obtain⟨a,ha,hv⟩:=C.gfn _ _ hg
      exact name_glob C er hr hn hv (q.now hr (.fn ha))
    | _=>exact ff c1
  | val u' =>
    cases sameV_eq c1
    obtain⟨w,hw,vr⟩:=C.gval _ _ hg
    exact name_glob C er hr hn hw (q.now hr (vr.mono ⟨fun _ _ e=>by simp at e,hr.t0⟩))
  | _=>exact ff c1
theorem s_tup {es:List ME} (hl:EvLS S call d es):EvS S call d (.tup es):=by
  intro l H H' v e nm sl x s as T env A E Q ao c er hr q
  refine ev_tup_k e fun vs e1 zq110=>?_
  subst zq110
  refine ch_tup_k c fun xs k p h100 c2=>?_
  refine wpAny_Tuple_spliced (hl e1 ao c2 er hr fun ws h1 tk1 as1 T1 x1 hr1 ra=>⟨?_,?_⟩)
  · rw [ra.length,evL_len e1]; exact Nat.le_trans h100 (by decide)
  · refine push_tup_k hr1 ra (by rw [evL_len e1]; exact Nat.le_trans h100 (by decide)) fun T2 x2 hr2 vr=>?_
    exact q _ _ _ _ _ (x1.trans x2) hr2 vr
theorem s_lst {es:List ME} (hl:EvLS S call d es):EvS S call d (.lst es):=by
  intro l H H' v e nm sl x s as T env A E Q ao c er hr q
  refine ev_lst_k e fun vs H1 e1 zq112=>?_
  subst zq112
  intro zq113
  subst zq113
  refine ch_lst_k c fun xs p h100 c2=>?_
  refine wpAny_List_spliced (hl e1 ao c2 er hr fun ws h1 tk1 as1 T1 x1 hr1 ra=>⟨?_,?_⟩)
  · rw [ra.length,evL_len e1]; exact Nat.le_trans h100 (by decide)
  · refine push_list_k hr1 ra (by rw [evL_len e1]; exact Nat.le_trans h100 (by decide)) fun x2 hr2 vr=>?_
    exact q _ _ _ _ _ (x1.trans x2) hr2 vr
theorem base_eq {o:Expr} (h:notSuper o=true) (a:Str) (env:Env) (m:Sem Value):attributeBase o a env m=m:=by
  cases o with
  | Call f xs ks p=>cases f with
    | Name=>cases xs with
      | nil=>cases ks with
        | nil=>exact ff h
        | cons=>rfl
      | cons=>rfl
    | _=>rfl
  | _=>rfl
theorem s_attr (C:Cx S) {o:ME} {a:Nat} (ho:EvS S call d o):EvS S call d (.attr o a):=by
  intro l H H' v e nm sl x s as T env A E Q ao c er hr q
  refine ev_attr_k e fun ov e1 hu=>?_
  refine ch_attr_k c fun y p c2 c3 c4=>?_
  refine Attribute_any_ (ho e1 ao c4 er hr fun wa h1 tk1 as1 T1 x1 hr1 ra=>?_) ?_
  · exact getA_ok C hr1 ra hu fun u tk vr=>q _ _ _ _ _ x1 hr1 vr
  · show(do
      let o ← attributeBase y (nmOf a) env (eval y env)
      standAt (Pos.atName p)
      let r ← holding [o] (getAttr o (nmOf a) true)
      letTemporaryGo y o r
      pure r)=_
    rw [base_eq c3]
theorem sub_plain {x:Expr} (h:isSlice x=false) (o i:Value):subscripted x false o i=operate [o,i] (getItem o i):=by
  cases x <;> first | rfl | cases h
theorem s_idx {o i:ME} (ho:EvS S call d o) (hi:EvS S call d i):EvS S call d (.idx o i):=by
  intro l H H' v e nm sl x s as T env A E Q ao c er hr q
  refine ev_idx_k e fun ov H1 iv e1 e2 hu=>?_
  refine ch_idx_k c fun y sb p c1 c2 c3=>?_
  refine Subscript_ (ho e1 ao c2 er hr fun wa h1 tk1 as1 T1 x1 hr1 ra=>?_)
  refine hi e2 ao c3 (er.ext x1) hr1 fun wb h2 tk2 as2 T2 x2 hr2 rb=>?_
  obtain⟨⟨Ty,id,t1,t2⟩,k⟩:=idx_ok (s:={ s with heap:=h2,toks:=tk2 }) (E:=E) (A:=A) (Q:=Q) hu hr2 (ra.mono x2.mono) rb fun u tk vr=>q _ _ _ _ _ (x1.trans x2) hr2 vr
  exact tail_any t1 t2 k (sub_plain c1 _ _)
theorem sub_slice {l u st:Option Expr} {p:Pos} (o i:Value):∃ ops,subscripted (.Slice l u st p) false o i=operate ops (getItem o i):=by
  cases st with
  | none=>exact⟨_,rfl⟩
  | some _=>exact⟨_,rfl⟩
theorem part_ok {m:ME} (hm:EvS S call d m) {l:Lo} {H H':Hp} {v:V} (e:evE S.P call m l H=some (v,H')) {nm:Nms} {sl:Sl} {x:Option Expr} {s:Shared} {as:As} {T:TS} {env:Env} {A:Around} {E Q:Value→Shared→Prop} (ao:AOk A d)
    (c:partC S.G nm sl m x=true) (er:ER S as T env nm sl l s.heap) (hr:HR S as T H s.heap) (q:Ret S as T s H' v Q):wpAny (model S.prog S.w) A (evalPart x env) Q E s:=by
  cases x with
  | none =>
    have:m=.lit .none:=by
      have c:noneLit m=true:=c
      cases m with
      | lit v=>cases v with
        | none=>rfl
        | _=>exact ff c
      | _=>exact ff c
    subst this
    obtain⟨rfl,rfl⟩:=ev_lit e
    exact wpAny_evalPart_none (q.now hr .none)
  | some y=>exact wpAny_evalPart_some (hm e ao (and2 c).1 er hr q)
theorem s_slice {o lo hi st:ME} (ho:EvS S call d o) (h1:EvS S call d lo) (h2:EvS S call d hi) (h3:EvS S call d st):EvS S call d (.slice o lo hi st):=by
  intro l H H' v e nm sl x s as T env A E Q ao c er hr q
  refine ev_slice_k e fun ov H1 lv H2 uv H3 tv H4 e1 e2 e3 e4 e=>?_
  refine ch_slice_k c fun xx l0 u0 s0 p0 p1 c1 c2 c3 c4=>?_
  refine Subscript_ (ho e1 ao c1 er hr fun wa g1 tk1 as1 T1 x1 hr1 ra=>?_)
  refine wpAny_Slice (part_ok h1 e2 ao c2 (er.ext x1) hr1 fun wl g2 tk2 as2 T2 x2 hr2 rl=>?_)
  refine part_ok h2 e3 ao c3 ((er.ext x1).ext x2) hr2 fun wu g3 tk3 as3 T3 x3 hr3 ru=>?_
  refine part_ok h3 e4 ao c4 (((er.ext x1).ext x2).ext x3) hr3 fun wt g4 tk4 as4 T4 x4 hr4 rt=>?_
  have kp:=keep_push (h:=g4) { cls:=Value.type "slice",data:=Data.fields #[wl,wu,wt] }
  have m34:=x4.mono
  have m24:=x3.mono.trans m34
  obtain⟨⟨Ty,id,t1,t2⟩,k⟩:=slice_ok (s:={ s with heap:=g4.push { cls:=Value.type "slice",data:=Data.fields #[wl,wu,wt] },toks:=tk4 }) (E:=E) (A:=A) (Q:=Q) (sl:=g4.objs.size) e (hr4.keep kp)
    (ra.mono (x2.mono.trans m24)) (rl.mono m24) (ru.mono m34) rt ⟨_,Heap.get?_push_size _ rfl,rfl,rfl⟩ fun w h' tk as' T' x' hr' vr=>q _ _ _ _ _ ((((x1.trans x2).trans x3).trans x4).trans ((Ext.keep kp).trans x')) hr' vr
  obtain⟨ops,hs⟩:=sub_slice _ _
  exact tail_any t1 t2 k hs
theorem s_bin {op:BOp} {a b:ME} (ha:EvS S call d a) (hb:EvS S call d b):EvS S call d (.bin op a b):=by
  intro l H H' v e nm sl x s as T env A E Q ao c er hr q
  refine ev_bin_k e fun va H1 vb H2 e1 e2 e=>?_
  refine ch_bin_k c fun y o z p c1 c2 c3=>?_
  refine PySem.wpAny_BinOp (ha e1 ao c2 er hr fun wa h1 tk1 as1 T1 x1 hr1 ra=>?_)
  refine hb e2 ao c3 (er.ext x1) hr1 fun wb h2 tk2 as2 T2 x2 hr2 rb=>?_
  exact bin_ok e c1 hr2 (ra.mono x2.mono) rb ((q.from x1).from x2)
theorem s_neg {a:ME} (ha:EvS S call d a):EvS S call d (.neg a):=by
  intro l H H' v e nm sl x s as T env A E Q ao c er hr q
  refine ev_neg_k e fun i e1 zq119=>?_
  subst zq119
  refine ch_neg_k c fun y p c1=>?_
  refine PySem.wpAny_UnaryOp (ha e1 ao c1 er hr fun wa h1 tk1 as1 T1 x1 hr1 ra=>?_)
  obtain⟨t,rfl⟩:=intE ra
  exact neg_int (q _ _ _ _ _ x1 hr1 (.int _ _))
theorem s_not {a:ME} (ha:EvS S call d a):EvS S call d (.not a):=by
  intro l H H' v e nm sl x s as T env A E Q ao c er hr q
  refine ev_not_k e fun b e1 zq121=>?_
  subst zq121
  refine ch_not_k c fun y p c1=>?_
  refine PySem.wpAny_UnaryOp (ha e1 ao c1 er hr fun wa h1 tk1 as1 T1 x1 hr1 ra=>?_)
  cases boolE ra
  exact not_of (wpAny_truthy_bool (q _ _ _ _ _ x1 hr1 (.bool _)))
theorem t_not {a:ME} (ha:TrS S call d a):TrS S call d (.not a):=by
  intro l H H' v e nm sl x s as T env A E Q ao c er hr q
  refine ev_not_k e fun b' e1 hb=>?_
  cases hb
  refine ch_not_k c fun y p c1=>?_
  exact isTrue_not (ha e1 ao c1 er hr q)
theorem marks_of {x:Expr} (h:notSet x=true) (op:CmpOp):behindInMarks op x=false:=by
  cases x <;> first | rfl | cases h
theorem cmpE {a b:ME} {op:COp} (ha:EvS S call d a) (hb:EvS S call d b) {l:Lo} {H H':Hp} {v:V} (e:evE S.P call (.cmp op a b) l H=some (v,H')) {nm:Nms} {sl:Sl} {x y:Expr} {o:CmpOp} {s:Shared} {as:As} {T:TS} {env:Env} {A:Around} {E Q:Value→Shared→Prop}
    (ao:AOk A d) (c0:copIs op o=true) (c1:chE S.G a nm sl x=true) (c2:chE S.G b nm sl y=true) (er:ER S as T env nm sl l s.heap) (hr:HR S as T H s.heap) (q:Ret S as T s H' v Q) :
    wpAny (model S.prog S.w) A (eval x env) (fun a s₁=>wpAny (model S.prog S.w) A (eval y env) (fun b s₂=>wpAny (model S.prog S.w) A (compareOp o a b) Q E s₂) E s₁) E s:=by
  refine ev_cmp_k e fun va H1 vb H2 r e1 e2 hr' e=>?_
  cases e
  refine ha e1 ao c1 er hr fun wa h1 tk1 as1 T1 x1 hr1 ra=>?_
  refine hb e2 ao c2 (er.ext x1) hr1 fun wb h2 tk2 as2 T2 x2 hr2 rb=>?_
  exact cmp_ok ao.u hr' c0 hr2 (ra.mono x2.mono) rb fun tk=>q _ _ _ _ _ (x1.trans x2) hr2 (.bool _)
theorem s_cmp {a b:ME} {op:COp} (ha:EvS S call d a) (hb:EvS S call d b):EvS S call d (.cmp op a b):=by
  intro l H H' v e nm sl x s as T env A E Q ao c er hr q
  refine ch_cmp_k c fun y o z p c1 c2 c3 c4=>?_
  exact PySem.wpAny_Compare1 (cmpE ha hb e ao c1 c3 c4 er hr q) (marks_of c2 _)
theorem t_cmp {a b:ME} {op:COp} (ha:EvS S call d a) (hb:EvS S call d b):TrS S call d (.cmp op a b):=by
  intro l H H' v e nm sl x s as T env A E Q ao c er hr q
  refine ch_cmp_k c fun y o z p c1 c2 c3 c4=>?_
  refine wpAny_isTrue_Compare1 (cmpE ha hb e ao c1 c3 c4 er hr fun w h' tk as' T' x' hr' vr=>?_) (marks_of c2 _)
  cases boolE vr
  exact wpAny_truthy_bool (q _ _ _ _ x' hr')
theorem s_ife {t a b:ME} (ht:TrS S call d t) (ha:EvS S call d a) (hb:EvS S call d b):EvS S call d (.ife t a b):=by
  intro l H H' v e nm sl x s as T env A E Q ao c er hr q
  obtain⟨H1,e⟩:=ev_ife e
  refine ch_ife_k c fun y z w p c1 c2 c3=>?_
  rcases e with⟨e1,e⟩ | ⟨e1,e⟩
  · exact IfExp_ (ht e1 ao c1 er hr fun h1 tk1 as1 T1 x1 hr1=>ha e ao c2 (er.ext x1) hr1 (q.from x1))
  · exact IfExp_ (ht e1 ao c1 er hr fun h1 tk1 as1 T1 x1 hr1=>hb e ao c3 (er.ext x1) hr1 (q.from x1))
theorem t_ife {t a b:ME} (ht:TrS S call d t) (ha:TrS S call d a) (hb:TrS S call d b):TrS S call d (.ife t a b):=by
  intro l H H' v e nm sl x s as T env A E Q ao c er hr q
  obtain⟨H1,e⟩:=ev_ife e
  refine ch_ife_k c fun y z w p c1 c2 c3=>?_
  rcases e with⟨e1,e⟩ | ⟨e1,e⟩
  · exact isTrue_IfExp (ht e1 ao c1 er hr fun h1 tk1 as1 T1 x1 hr1=>ha e ao c2 (er.ext x1) hr1 (q.from x1))
  · exact isTrue_IfExp (ht e1 ao c1 er hr fun h1 tk1 as1 T1 x1 hr1=>hb e ao c3 (er.ext x1) hr1 (q.from x1))
end
end Mine
namespace Mine
section
variable {S:Sur} {call:CallT} {d:Nat}
noncomputable def AllEv (S:Sur) (call:CallT) (d:Nat):List ME→Prop
  | []=>True
  | e::r=>EvS S call d e∧TrS S call d e∧AllEv S call d r
theorem and_bool {P:Pg}:∀ {es:List ME} {l:Lo} {H H':Hp} {v:V},evAnd P call es l H=some (v,H')→∃ b,v=.bool b
  | [],_,_,_,_,e=>by rw [evAnd_1] at e; cases e; exact⟨_,rfl⟩
  | _::r,_,_,_,_,e=>by
    rw [evAnd_2] at e
    refine bnd_some_k e fun a H1 e1 e=>?_
    split at e
    · exact and_bool e
    · cases e; exact⟨_,rfl⟩
    · cases e
theorem s_andL:∀ {es:List ME},AllEv S call d es→∀ {l:Lo} {H H':Hp} {v:V},evAnd S.P call es l H=some (v,H') →
    ∀ ⦃nm:Nms⦄ ⦃sl:Sl⦄ ⦃xs:List Expr⦄ ⦃s:Shared⦄ ⦃as:As⦄ ⦃T:TS⦄ ⦃env:Env⦄ ⦃A:Around⦄ ⦃E Q:Value→Shared→Prop⦄ ⦃pos:Pos⦄,AOk A d→chL S.G es nm sl xs=true→xs≠[]→ER S as T env nm sl l s.heap→HR S as T H s.heap →
    Ret S as T s H' v Q→wpAny (model S.prog S.w) A (eval (.BoolOp .And xs pos) env) Q E s
  | [],_,_,_,_,_,e=>by
    intro nm sl xs s as T env A E Q pos ao c hne er hr q
    cases xs with
    | nil=>exact absurd rfl hne
    | cons=>simp [chL_1,chL_2] at c
  | e0::r,hA,_,_,_,_,e=>by
    intro nm sl xs s as T env A E Q pos ao c hne er hr q
    obtain⟨he,_,hr'⟩:=hA
    rw [evAnd_2] at e
    refine bnd_some_k e fun a H1 e1 e=>?_
    cases xs with
    | nil=>exact absurd rfl hne
    | cons x ys =>
      simp only [chL_1,chL_2,Bool.and_eq_true] at c
      cases ys with
      | nil =>
        refine BoolOp_one (he e1 ao c.1.2 er hr fun w h1 tk1 as1 T1 x1 hr1 ra=>?_)
        cases r with
        | cons=>have:=c.2; simp [chL_1,chL_2] at this
        | nil =>
          split at e
          · rw [evAnd_1] at e; cases e; exact q _ _ _ _ _ x1 hr1 ra
          · cases e; exact q _ _ _ _ _ x1 hr1 ra
          · cases e
      | cons y zs =>
        refine PyProof.Rows.BoolOp_and (he e1 ao c.1.2 er hr fun w h1 tk1 as1 T1 x1 hr1 ra=>?_)
        split at e
        · cases boolE ra
          refine wpAny_truthy_bool ?_
          simp only [if_true]
          exact s_andL hr' e ao c.2 (by simp) (er.ext x1) hr1 (q.from x1)
        · cases boolE ra
          cases e
          refine wpAny_truthy_bool ?_
          simp only [Bool.false_eq_true,if_false]
          exact q _ _ _ _ _ x1 hr1 (.bool _)
        · cases e
theorem t_andL:∀ {es:List ME},AllEv S call d es→∀ {l:Lo} {H H':Hp} {b:Bool},evAnd S.P call es l H=some (.bool b,H') →
    ∀ ⦃nm:Nms⦄ ⦃sl:Sl⦄ ⦃xs:List Expr⦄ ⦃s:Shared⦄ ⦃as:As⦄ ⦃T:TS⦄ ⦃env:Env⦄ ⦃A:Around⦄ ⦃E:Value→Shared→Prop⦄ ⦃Q:Bool→Shared→Prop⦄ ⦃pos:Pos⦄ ⦃whole:Sem Value⦄,AOk A d→chL S.G es nm sl xs=true→ER S as T env nm sl l s.heap→HR S as T H s.heap →
    RetB S as T s H' b Q→wpAny (model S.prog S.w) A (PySem.isTrue (.BoolOp .And xs pos) env whole) Q E s
  | [],_,_,_,_,_,e=>by
    intro nm sl xs s as T env A E Q pos whole ao c er hr q
    rw [evAnd_1] at e; cases e
    cases xs with
    | nil=>exact isTrue_and_nil (q s.heap s.toks as T (.refl ..) hr)
    | cons=>simp [chL_1,chL_2] at c
  | e0::r,hA,_,_,_,_,e=>by
    intro nm sl xs s as T env A E Q pos whole ao c er hr q
    obtain⟨_,he,hr'⟩:=hA
    rw [evAnd_2] at e
    refine bnd_some_k e fun a H1 e1 e=>?_
    cases xs with
    | nil=>simp [chL_1,chL_2] at c
    | cons x ys =>
      simp only [chL_1,chL_2,Bool.and_eq_true] at c
      split at e
      · exact isTrue_and (he e1 ao c.1.2 er hr fun h1 tk1 as1 T1 x1 hr1=>t_andL hr' e ao c.2 (er.ext x1) hr1 (q.from x1))
      · cases e
        exact isTrue_and (he e1 ao c.1.2 er hr fun h1 tk1 as1 T1 x1 hr1=>q _ _ _ _ x1 hr1)
      · cases e
theorem s_orL:∀ {es:List ME},AllEv S call d es→∀ {l:Lo} {H H':Hp} {v:V},evOr S.P call es l H=some (v,H') →
    ∀ ⦃nm:Nms⦄ ⦃sl:Sl⦄ ⦃xs:List Expr⦄ ⦃s:Shared⦄ ⦃as:As⦄ ⦃T:TS⦄ ⦃env:Env⦄ ⦃A:Around⦄ ⦃E Q:Value→Shared→Prop⦄ ⦃pos:Pos⦄,AOk A d→chL S.G es nm sl xs=true→xs≠[]→ER S as T env nm sl l s.heap→HR S as T H s.heap →
    Ret S as T s H' v Q→wpAny (model S.prog S.w) A (eval (.BoolOp .Or xs pos) env) Q E s
  | [],_,_,_,_,_,e=>by
    intro nm sl xs s as T env A E Q pos ao c hne er hr q
    cases xs with
    | nil=>exact absurd rfl hne
    | cons=>simp [chL_1,chL_2] at c
  | e0::r,hA,_,_,_,_,e=>by
    intro nm sl xs s as T env A E Q pos ao c hne er hr q
    obtain⟨he,_,hr'⟩:=hA
    rw [evOr_2] at e
    refine bnd_some_k e fun a H1 e1 e=>?_
    cases xs with
    | nil=>exact absurd rfl hne
    | cons x ys =>
      simp only [chL_1,chL_2,Bool.and_eq_true] at c
      cases ys with
      | nil =>
        refine BoolOp_one (he e1 ao c.1.2 er hr fun w h1 tk1 as1 T1 x1 hr1 ra=>?_)
        cases r with
        | cons=>have:=c.2; simp [chL_1,chL_2] at this
        | nil =>
          split at e
          · rw [evOr_1] at e; cases e; exact q _ _ _ _ _ x1 hr1 ra
          · cases e; exact q _ _ _ _ _ x1 hr1 ra
          · cases e
      | cons y zs =>
        refine PyProof.Rows.BoolOp_or (he e1 ao c.1.2 er hr fun w h1 tk1 as1 T1 x1 hr1 ra=>?_)
        split at e
        · cases boolE ra
          refine wpAny_truthy_bool ?_
          simp only [Bool.false_eq_true,if_false]
          exact s_orL hr' e ao c.2 (by simp) (er.ext x1) hr1 (q.from x1)
        · cases boolE ra
          cases e
          refine wpAny_truthy_bool ?_
          simp only [if_true]
          exact q _ _ _ _ _ x1 hr1 (.bool _)
        · cases e
theorem t_orL:∀ {es:List ME},AllEv S call d es→∀ {l:Lo} {H H':Hp} {b:Bool},evOr S.P call es l H=some (.bool b,H') →
    ∀ ⦃nm:Nms⦄ ⦃sl:Sl⦄ ⦃xs:List Expr⦄ ⦃s:Shared⦄ ⦃as:As⦄ ⦃T:TS⦄ ⦃env:Env⦄ ⦃A:Around⦄ ⦃E:Value→Shared→Prop⦄ ⦃Q:Bool→Shared→Prop⦄ ⦃pos:Pos⦄ ⦃whole:Sem Value⦄,AOk A d→chL S.G es nm sl xs=true→ER S as T env nm sl l s.heap→HR S as T H s.heap →
    RetB S as T s H' b Q→wpAny (model S.prog S.w) A (PySem.isTrue (.BoolOp .Or xs pos) env whole) Q E s
  | [],_,_,_,_,_,e=>by
    intro nm sl xs s as T env A E Q pos whole ao c er hr q
    rw [evOr_1] at e; cases e
    cases xs with
    | nil=>exact isTrue_or_nil (q s.heap s.toks as T (.refl ..) hr)
    | cons=>simp [chL_1,chL_2] at c
  | e0::r,hA,_,_,_,_,e=>by
    intro nm sl xs s as T env A E Q pos whole ao c er hr q
    obtain⟨_,he,hr'⟩:=hA
    rw [evOr_2] at e
    refine bnd_some_k e fun a H1 e1 e=>?_
    cases xs with
    | nil=>simp [chL_1,chL_2] at c
    | cons x ys =>
      simp only [chL_1,chL_2,Bool.and_eq_true] at c
      split at e
      · exact isTrue_or (he e1 ao c.1.2 er hr fun h1 tk1 as1 T1 x1 hr1=>t_orL hr' e ao c.2 (er.ext x1) hr1 (q.from x1))
      · cases e
        exact isTrue_or (he e1 ao c.1.2 er hr fun h1 tk1 as1 T1 x1 hr1=>q _ _ _ _ x1 hr1)
      · cases e
theorem s_and {es:List ME} (hA:AllEv S call d es):EvS S call d (.and es):=by
  intro l H H' v e nm sl x s as T env A E Q ao c er hr q
  have e:evAnd S.P call es l H=_:=e
  refine ch_and_k c fun xs p c1 c2=>?_
  exact s_andL hA e ao c2 (fun hn=>by rw [hn] at c1; exact absurd c1 (by decide)) er hr q
theorem t_and {es:List ME} (hA:AllEv S call d es):TrS S call d (.and es):=by
  intro l H H' v e nm sl x s as T env A E Q ao c er hr q
  have e:evAnd S.P call es l H=_:=e
  refine ch_and_k c fun xs p c1 c2=>?_
  exact t_andL hA e ao c2 er hr q
theorem s_or {es:List ME} (hA:AllEv S call d es):EvS S call d (.or es):=by
  intro l H H' v e nm sl x s as T env A E Q ao c er hr q
  have e:evOr S.P call es l H=_:=e
  refine ch_or_k c fun xs p c1 c2=>?_
  exact s_orL hA e ao c2 (fun hn=>by rw [hn] at c1; exact absurd c1 (by decide)) er hr q
theorem t_or {es:List ME} (hA:AllEv S call d es):TrS S call d (.or es):=by
  intro l H H' v e nm sl x s as T env A E Q ao c er hr q
  have e:evOr S.P call es l H=_:=e
  refine ch_or_k c fun xs p c1 c2=>?_
  exact t_orL hA e ao c2 er hr q
theorem callF_ok {S:Sur} {K:Frag} {f:Value} {first:List Value} {xs:List Expr} {env:Env} {pos:Pos} {A:Around} {E Q:Value→Shared→Prop} {s:Shared} (hk:keepIn K f=true) (hs:noStar xs=true)
    (k:wpAny (model S.prog S.w) A (spliced (backTo pos (starEach xs env))) (fun vs s₁=>K.In s₁.heap∧wpAny (model S.prog S.w) A (PySem.call f (first++vs)) Q E s₁) E s):wpAny (model S.prog S.w) A (callWith pos f first (backTo pos (starEach xs env)) []) Q E s :=
  callWith_of (P:=fun h=>K.In h) (by rw [star_any hs]; rfl) (keeps_K hk) (args_ok hs k)
theorem callB_ok {S:Sur} {id:String} {first:List Value} {xs:List Expr} {env:Env} {pos:Pos} {A:Around} {E Q:Value→Shared→Prop} {s:Shared} (hs:noStar xs=true)
    (k:wpAny (model S.prog S.w) A (spliced (backTo pos (starEach xs env))) (fun vs s₁=>wpAny (model S.prog S.w) A (PySem.call (.builtin id) (first++vs)) Q E s₁) E s):wpAny (model S.prog S.w) A (callWith pos (.builtin id) first (backTo pos (starEach xs env)) []) Q E s :=
  callWith_builtin_kwB (star_any hs) rfl (args_ok hs k)
theorem callT_ok {S:Sur} {id:String} {first:List Value} {xs:List Expr} {env:Env} {pos:Pos} {A:Around} {E Q:Value→Shared→Prop} {s:Shared} (hs:noStar xs=true)
    (k:wpAny (model S.prog S.w) A (spliced (backTo pos (starEach xs env))) (fun vs s₁=>wpAny (model S.prog S.w) A (PySem.call (.type id) (first++vs)) Q E s₁) E s):wpAny (model S.prog S.w) A (callWith pos (.type id) first (backTo pos (starEach xs env)) []) Q E s :=
  PyProof.Rows.callWith_type (star_any hs) (args_ok hs k)
theorem own_call (ca:CallOk S call d) {k:Nat} {vs:List V} {H H':Hp} {v:V} (e:call k vs H=some (v,H')) {A:Around} {s:Shared} {as:As} {T:TS} {a:Addr} {ws:List Value} {E Q:Value→Shared→Prop} (ao:AOk A d) (ha:S.fa[k]? = some a) (hr:HR S as T H s.heap)
    (vv:VRs S.fa as T vs ws) (q:Ret S as T s H' v Q):wpAny (model S.prog S.w) A (PySem.call (.ref a) ws) Q E s :=
  wpAny_call (ca e ao.c ha hr vv q)
theorem s_call (C:Cx S) (ca:CallOk S call d) {f:ME} {es:List ME} (hf:EvS S call d f) (hl:EvLS S call d es):EvS S call d (.call f es):=by
  intro l H H' v e nm sl x s as T env A E Q ao c er hr q
  refine ev_call_k e fun k H1 vs H2 e1 e2 e=>?_
  refine ch_call_k c fun n p xs p' c1 c2=>?_
  refine wpAny_Call_ofName (hf e1 ao c1 er hr fun wf h1 tk1 as1 T1 x1 hr1 rf=>?_)
  cases rf with
  | fn ha =>
    refine callF_ok (C.keep _ _ ha) (chL_star c2) (hl e2 ao c2 (er.ext x1) hr1 fun ws h2 tk2 as2 T2 x2 hr2 rv=>⟨C.X.keeps hr2.base,?_⟩)
    exact own_call ca e ao ha hr2 rv ((q.from x1).from x2)
theorem s_bmeth {o:ME} {m:BM} {es:List ME} (ho:EvS S call d o) (hl:EvLS S call d es):EvS S call d (.bmeth o m es):=by
  intro l H H' v e nm sl x s as T env A E Q ao c er hr q
  refine ev_bmeth_k e fun ov H1 vs H2 e1 hk e2 e=>?_
  refine ch_bmeth_k c fun y ap xs p c2 c3 c4 c5 c6=>?_
  refine bm_slots_k m fun b1 b2 b3=>?_
  have hst:=star_any (pos:=p) (env:=env) (chL_star c6)
  refine wpAny_Call_method (base_eq c4 _ _ _) ?_ c3 b1 b2 b3 (ho e1 ao c5 er hr fun wo h1 tk1 as1 T1 x1 hr1 ro=>?_)
  · have hall:(List.all (backTo p (starEach xs env)) fun x=>!x.1)=true:=by
      rw [List.all_eq_not_any_not]
      simpa using hst
    simp only [Bool.and_eq_true,decide_eq_true_eq]
    exact⟨⟨hall,rfl⟩,by simp; exact Nat.not_le.mp (lin [_] (.c 1 (.a (.v 0) (.n 1)) (.n 20) (.c 1 (.n 30) (.v 0) .z)) rfl c2)⟩
  · obtain⟨k1,k2⟩:=bm_kind (s:={ s with heap:=h1,toks:=tk1 }) hk hr1 ro
    refine⟨k1,k2,callB_ok (chL_star c6) (hl e2 ao c6 (er.ext x1) hr1 fun ws h2 tk2 as2 T2 x2 hr2 rv=>?_)⟩
    exact bm_ok e hr2 (ro.mono x2.mono) rv ((q.from x1).from x2)
theorem s_prim (C:Cx S) {p:Pr} {es:List ME} (hl:EvLS S call d es):EvS S call d (.prim p es):=by
  intro l H H' v e nm sl x s as T env A E Q ao c er hr q
  refine ev_prim_k e fun vs H1 e1 e=>?_
  refine ch_prim_k c fun pp xs p' c2 c3=>?_
  refine gIs_spec_k c2 fun hn g hg c2=>?_
  cases g with
  | pr g =>
    refine wpAny_Call_ofName (name_blt C er hr hn (C.gpr _ _ hg) (boot_prim p).1 (boot_prim p).2 ?_)
    have ev:wpAny (model S.prog S.w) A (spliced (backTo p' (starEach xs env))) (fun ws s'=>wpAny (model S.prog S.w) A (PySem.call (primVal p) ws) Q E s') E s :=
      hl e1 ao c3 er hr fun ws h1 tk1 as1 T1 x1 hr1 rv=>prim_ok ao.handled e hr1 rv (q.from x1)
    cases p with
    | int | list | range | str=>exact callT_ok (chL_star c3) ev
    | _=>exact callB_ok (chL_star c3) ev
  | _=>exact ff c2
theorem under_ok {A:Around} {d:Nat} (ao:AOk A d) (a:Addr) (ws:List Value):AOkC (A.under (.builtin "type.__call__" ⟨.ref a::ws,[]⟩)) d:=by
  refine⟨ao.handled,?_,?_⟩
  · have:=ao.depth
    have h2:(Code.builtin "type.__call__" ⟨.ref a::ws,[]⟩).weight=1:=by kernel_rfl
    show A.depth+(Code.builtin "type.__call__" ⟨.ref a::ws,[]⟩).weight+4 * d+6≤1000
    exact Nat.not_lt.mp (lin [_,_,_] (.c 1 (.a (.a (.v 0) (.m 4 (.v 1))) (.n 8)) (.n 1000) (.c 1 (.v 2) (.n 1) (.c 1 (.a (.n 1000) (.n 1)) (.a (.a (.a (.v 0) (.v 2)) (.m 4 (.v 1))) (.n 6)) .z))) rfl this (Nat.le_of_eq h2))
  · have:=ao.units
    have h2:(Code.builtin "type.__call__" ⟨.ref a::ws,[]⟩).cUnits=1:=by kernel_rfl
    show A.units+(Code.builtin "type.__call__" ⟨.ref a::ws,[]⟩).cUnits+32 * d+180≤9900
    exact Nat.not_lt.mp (lin [_,_,_] (.c 1 (.a (.a (.v 0) (.m 32 (.v 1))) (.n 200)) (.n 9900) (.c 1 (.v 2) (.n 1) (.c 1 (.a (.n 9900) (.n 1)) (.a (.a (.a (.v 0) (.v 2)) (.m 32 (.v 1))) (.n 180)) .z))) rfl this (Nat.le_of_eq h2))
theorem fr_nil {as:As} {T:TS}:FR S as T [] (fun _=>none):=⟨fun i v e=>by simp [lookN_1,lookN_2] at e,fun x w e=>by simp at e⟩
theorem s_new (C:Cx S) (ca:CallOk S call d) {k:Nat} {es:List ME} (hl:EvLS S call d es):EvS S call d (.new k es):=by
  intro l H H' v e nm sl x s as T env A E Q ao c er hr q
  refine ev_new_k e fun vs H1 ci e1 hci e2 zq137=>?_
  subst zq137
  refine ch_new_k c fun n np xs p' c1 c2 c3=>?_
  refine gIs_spec_k c2 fun hn g hg c2=>?_
  cases g with
  | cls g =>
    cases beq_iff_eq.mp c2
    obtain⟨Cl,hC,hv,_⟩:=C.gcls _ _ hg
    refine wpAny_Call_ofName (name_glob C er hr hn hv ?_)
    refine callF_ok (C.keepC _ _ hC) (chL_star c3) (hl e1 ao c3 er hr fun ws h1 tk1 as1 T1 x1 hr1 rv=>⟨C.X.keeps hr1.base,?_⟩)
    obtain⟨ci',hci',ok⟩:=C.cls k Cl c1 hC
    rw [hci] at hci'; cases hci'
    obtain⟨a,ha,hf,ht⟩:=ok.init
    have X:=C.X.keeps hr1.base
    refine wpAny_call (make_core (init:=.ref a) (makes_of X ok.makes) (looks_findIn X hf) (fun self=>bind_fn X self ht) (.inl rfl) ?_)
    have kp:∀ b o,h1.get? b=some o→((h1.push emptyDict).push (instObj Cl h1.objs.size)).get? b=some o:=fun b o e=>keep_push _ _ _ (keep_push _ _ _ e)
    have sz:(h1.push emptyDict).objs.size=h1.objs.size+1:=Heap.size_push ..
    have n1:h1.get? (h1.objs.size+1)=none:=by
      cases e:h1.get? (h1.objs.size+1) with
      | none=>rfl
      | some o=>exact absurd (Heap.lt_size e) (Nat.not_lt.mpr (Nat.le_succ _))
    have o1:((h1.push emptyDict).push (instObj Cl h1.objs.size)).get? (h1.objs.size+1)=some (instObj Cl h1.objs.size):=by have:=Heap.get?_push_size (h1.push emptyDict) (o:=instObj Cl h1.objs.size) rfl; rw [sz] at this; exact this
    have o2:((h1.push emptyDict).push (instObj Cl h1.objs.size)).get? h1.objs.size=some emptyDict:=keep_push _ _ _ (Heap.get?_push_size _ rfl)
    have hr2:HR S (as1++[(h1.objs.size+1,some h1.objs.size)]) T1 (H1++[.inst k []]) ((h1.push emptyDict).push (instObj Cl h1.objs.size)):=by
      refine hr1.alloc kp (by simp) (fun b hb=>?_) (.inst (f:=fun _=>none) c1 hC o1 ⟨_,#[],_,o2,rfl,?_,?_,fun _=>rfl⟩ fr_nil)
      · simp at hb
        rcases hb with rfl | rfl
        · exact Nat.le_succ _
        · exact Nat.le_refl _
      · intro e he; simp at he
      · first | (intro i j; simp) | simp [UniqKeys] | (intro e he; simp at he)
    have mm:Mono as1 T1 (as1++[(h1.objs.size+1,some h1.objs.size)]) T1:=⟨fun n q e=>getElem?_append_some e,fun _ _ e=>e⟩
    have x2:Ext Nil as1 T1 h1 (as1++[(h1.objs.size+1,some h1.objs.size)]) T1 ((h1.push emptyDict).push (instObj Cl h1.objs.size)):=by
      refine⟨mm,fun b o _ _ e=>kp b o e,fun b hb _=>hb.elim,fun b hb=>?_⟩
      rw [owned_append] at hb
      rcases List.mem_append.mp hb with q | q
      · exact .inl q
      · simp [owned] at q
        rcases q with rfl | rfl
        · exact .inr n1
        · exact .inr size_none
    have vr:VR S.fa (as1++[(h1.objs.size+1,some h1.objs.size)]) T1 (.loc H1.length) (.ref (h1.objs.size+1)) :=
      .loc (p:=(h1.objs.size+1,some h1.objs.size)) (by rw [List.getElem?_append_right (by rw [hr1.len]; exact Nat.le_refl _),hr1.len,Nat.sub_self]; rfl)
    refine ca e2 (s:={ s with heap:=(h1.push emptyDict).push (instObj Cl h1.objs.size),toks:=tk1 }) (under_ok ao _ _) ha hr2 (.cons vr (rv.mono mm)) fun w h3 tk3 as3 T3 x3 hr3 rw3=>?_
    cases noneE rw3
    exact⟨rfl,q _ _ _ _ _ ((x1.trans x2).trans x3) hr3 (vr.mono x3.mono)⟩
  | _=>exact ff c2
theorem s_meth (C:Cx S) (ca:CallOk S call d) {o:ME} {m:Nat} {es:List ME} (ho:EvS S call d o) (hl:EvLS S call d es):EvS S call d (.meth o m es):=by
  intro l H H' v e nm sl x s as T env A E Q ao c er hr q
  refine ev_meth_k e fun n H1 c0 fs ci k vs H2 e1 hn hci hk e2 e=>?_
  refine ch_meth_k c fun y ap xs p c0' c2 c3 c4 c5 c6=>?_
  have hst:=star_any (pos:=p) (env:=env) (chL_star c6)
  have hform:methodCallForm (xs.length+([]:List Keyword).length) (backTo p (starEach xs env)) (backToKw p (keywordEach [] env))=true:=by
    have hall:(List.all (backTo p (starEach xs env)) fun x=>!x.1)=true:=by
      rw [List.all_eq_not_any_not]
      simpa using hst
    unfold methodCallForm
    have hkw:backToKw p (keywordEach [] env)=[]:=rfl
    rw [hkw]
    simp only [Bool.and_eq_true,decide_eq_true_eq]
    exact⟨⟨hall,rfl⟩,by simp; exact Nat.not_le.mp (lin [_] (.c 1 (.a (.v 0) (.n 1)) (.n 20) (.c 1 (.n 30) (.v 0) .z)) rfl c2)⟩
  have hpos:methodCallPos true y env ap p=pure p:=by unfold methodCallPos; simp [c3]
  rw [arm_eval_Call,base_eq c4]
  refine wpAny_bind (wpAny_mono (ho e1 ao c5 er hr fun wo h1 tk1 as1 T1 x1 hr1 ro=>?_) (fun _ _ e=>e) fun _ _ e=>e)
  refine wpAny_bind (wpAny_standAt ?_)
  unfold methodCall
  rw [hform]
  refine wpAny_bind (wpAny_holding (meth_ok C hr1 ro hn hci hk fun a ha=>?_))
  refine wpAny_bind (wpAny_of_eq hpos ?_)
  refine callF_ok (C.keep _ _ ha) (chL_star c6) (hl e2 ao c6 (er.ext x1) hr1 fun ws h2 tk2 as2 T2 x2 hr2 rv=>⟨C.X.keeps hr2.base,?_⟩)
  exact own_call ca e ao ha hr2 (.cons (ro.mono x2.mono) rv) ((q.from x1).from x2)
theorem s_isin (C:Cx S) {o:ME} {k:IK} (ho:EvS S call d o):EvS S call d (.isin o k):=by
  intro l H H' v e nm sl x s as T env A E Q ao c er hr q
  refine ev_isin_k e fun ov b e1 hb zq140=>?_
  subst zq140
  refine ch_isin_k c fun n p y pz p' c1 c3 c4 c5=>?_
  refine gIs_spec_k c1 fun hn g hg c1=>?_
  cases g with
  | isi =>
    obtain⟨hz,rfl⟩:=C.gisi _ hg
    refine wpAny_Call_ofName (name_blt C er hr hn hz boot_isi.1 boot_isi.2 ?_)
    refine callB_ok (by simp only [noStar_1,noStar_2,c4,Bool.true_and]; rfl) ?_
    refine spliced_more (ho e1 ao c5 er hr fun wa h1 tk1 as1 T1 x1 hr1 ra=>?_) (noStar1 c4 _ _)
    refine gIs_spec_k c3 fun hn2 g2 hg2 c3=>?_
    have done:∀ wk,KV S k wk→wpAny (model S.prog S.w) A (PySem.call (.builtin "isinstance") [wa,wk]) Q E { s with heap:=h1,toks:=tk1 }:=fun wk hk=>isi_ok C hb hr1 ra hk fun tk=>q _ _ _ _ _ x1 hr1 (.bool _)
    have er1:=er.ext x1
    cases g2 with
    | cls j =>
      cases k with
      | cls i =>
        cases beq_iff_eq.mp c3
        obtain⟨Cl,hC,hv,_⟩:=C.gcls _ _ hg2
        exact spliced_more (name_glob C er1 hr1 hn2 hv (spliced_none (done _ ⟨Cl,hC,rfl⟩)))
      | _=>exact ff c3
    | pr g3 =>
      cases k with
      | int=>exact spliced_more (name_blt C er1 hr1 hn2 (C.gpr _ _ hg2) (boot_prim .int).1 (boot_prim .int).2 (spliced_none (done _ rfl)))
      | str=>exact spliced_more (name_blt C er1 hr1 hn2 (C.gpr _ _ hg2) (boot_prim .str).1 (boot_prim .str).2 (spliced_none (done _ rfl)))
      | _=>exact ff c3
    | typ g3 =>
      cases k with
      | tuple=>exact spliced_more (name_blt C er1 hr1 hn2 (C.gtyp _ _ hg2) boot_tuple.1 boot_tuple.2 (spliced_none (done _ rfl)))
      | _=>exact ff c3
    | _=>exact ff c3
  | _=>exact ff c1
end
end Mine
namespace Mine
section
variable {S:Sur} {call:CallT} {d:Nat} {as as':As} {T T':TS} {H H':Hp} {h h':Heap} {s:Shared} {env:Env} {nm:Nms} {sl:Sl} {l:Lo} {A:Around} {E:Value→Shared→Prop}
structure Free (S:Sur) (as:As) (env:Env) (I:Addr):Prop where
  own:I ∉ owned as
  old:S.h0.get? I=none
  loc:I≠env.locals
  cell:∀ x,env.cells.lookup x≠some I
theorem Free.nex {I:Addr} (f:Free S as env I):¬ EX env I:=fun q=>by
  rcases q with q | ⟨x,q⟩
  · exact f.loc q
  · exact f.cell x q
theorem Free.ext {X:Addr→Prop} {I:Addr} (f:Free S as env I) (e:Ext X as T h as' T' h') {o:Obj} (ho:h.get? I=some o):Free S as' env I :=
  have own:I ∉ owned as':=fun q=>by
    rcases e.own I q with z | z
    · exact f.own z
    · rw [z] at ho; first | exact nn ho | exact ff ho | cases ho
  ⟨own,f.old,f.loc,f.cell⟩
theorem ER.but (x:ER S as T env nm sl l h) {I:Addr} (f:Free S as env I) (k:∀ b o,b≠I→h.get? b=some o→h'.get? b=some o):ER S as T env nm sl l h':=by
  obtain⟨m,hn,hm⟩:=x.loc
  refine⟨x.kind,x.glob,x.blt,x.names,x.dbg,x.len,x.nd,⟨m,ns_keep hn fun o=>k _ o (Ne.symm f.loc),hm⟩,fun i y e1=>?_,x.cellx,fun y c e1=>?_,x.frame,x.cells⟩
  · obtain⟨c,w,h1,h2,h3⟩:=x.cell i y e1
    exact⟨c,w,h1,cell_keep h2 fun o=>k _ o fun q=>f.cell y (q▸h1),h3⟩
  · obtain⟨w,h2⟩:=x.cella y c e1
    exact⟨w,cell_keep h2 fun o=>k _ o fun q=>f.cell y (q▸e1)⟩
theorem ER.exo (x:ER S as T env nm sl l h):∀ b,EX env b→b ∉ owned as:=fun b q=>by
  rcases q with rfl | ⟨y,q⟩
  · exact x.frame.1
  · exact(x.cells y b q).1
theorem ER.fresh (x:ER S as T env nm sl l h) (hr:HR S as T H h) {I:Addr} (hI:h.get? I=none):Free S as env I:=by
  refine⟨fun q=>?_,?_,fun q=>?_,fun y q=>?_⟩
  · obtain⟨o,ho⟩:=hr.alive q; rw [hI] at ho; first | exact nn ho | exact ff ho | cases ho
  · cases e:S.h0.get? I with
    | none=>rfl
    | some o=>have:=hr.base I o e; rw [hI] at this; first | exact nn this | exact ff this | cases this
  · obtain⟨m,hn,_⟩:=x.loc
    obtain⟨o,ho⟩:=ns_alive hn
    rw [← q,hI] at ho; cases ho
  · obtain⟨w,hw⟩:=x.cella y I q
    obtain⟨o,ho⟩:=cell_alive hw
    rw [hI] at ho; first | exact nn ho | exact ff ho | cases ho
inductive IR (S:Sur) (as:As) (T:TS) (h:Heap):It→Addr→Prop
  | tup {l:List V} {ws:List Value} {I t:Addr} {i:Nat}:h.IsTupleIter I t i→T t (.tup ws)→VRs S.fa as T l (ws.drop i)→IR S as T h (.seq l) I
  | str {x:Str} {t:Tok} {I:Addr} {i:Nat} {cs:List Nat}:h.IsStrIter I "str_ascii_iterator" x t i→cs=x.cps.toList.drop i→IR S as T h (.seq (cs.map fun c=>.str [c])) I
  | lst {n i:Nat} {I a:Addr}:h.IsListIter I a i→as[n]? = some (a,none)→IR S as T h (.lst n i) I
  | rng {x c:Int} {k:Nat} {I:Addr}:IsRangeIter h I x k c→IR S as T h (.rng x c k) I
theorem IR.alive_k {it:It} {I:Addr} (x:IR S as T h it I) {zg:Prop} (zk:∀ o,(h.get? I=some o)→(o.cls≠.type "tuple")→(o.cls≠.type "list")→(o.cls≠.type "range")→zg):zg:=by
  cases x with
  | tup a _ _=>obtain⟨o,e,c,_⟩:=a; exact zk o e (by rw [c]; decide) (by rw [c]; decide) (by rw [c]; decide)
  | str a _=>obtain⟨o,e,c,_⟩:=a; exact zk o e (by rw [c]; decide) (by rw [c]; decide) (by rw [c]; decide)
  | lst a _=>obtain⟨o,e,c,_⟩:=a; exact zk o e (by rw [c]; decide) (by rw [c]; decide) (by rw [c]; decide)
  | rng a=>exact zk _ a (by intro q; simp at q) (by intro q; simp at q) (by intro q; simp at q)
theorem IR.alive {it:It} {I:Addr} (x:IR S as T h it I):∃ o,h.get? I=some o∧o.cls≠.type "tuple"∧o.cls≠.type "list"∧o.cls≠.type "range":=IR.alive_k x fun o zh1 zh2 zh3 zh4=>⟨o,zh1,zh2,zh3,zh4⟩
theorem IR.keep {it:It} {I:Addr} (x:IR S as T h it I) (m:Mono as T as' T') (k:∀ o,h.get? I=some o→h'.get? I=some o):IR S as' T' h' it I:=by
  cases x with
  | tup a b c=>obtain⟨o,e,r⟩:=a; exact .tup ⟨o,k o e,r⟩ (m.tx _ _ b) (c.mono m)
  | str a b=>obtain⟨o,e,r⟩:=a; exact .str ⟨o,k o e,r⟩ b
  | lst a b=>obtain⟨o,e,r⟩:=a; exact .lst ⟨o,k o e,r⟩ (m.asx _ _ b)
  | rng a=>exact .rng (k _ a)
theorem IR.ext {X:Addr→Prop} {it:It} {I:Addr} (x:IR S as T h it I) (e:Ext X as T h as' T' h') (ho:I ∉ owned as) (hX:¬ X I):IR S as' T' h' it I:=x.keep e.mono fun o q=>e.kp I o ho hX q
theorem IR.noT {it:It} {I:Addr} (x:IR S as T h it I) (hr:HR S as T H h) (i:Im):¬ T I i:=by
  refine x.alive_k fun o e a b c=>?_
  exact hr.noT_cls e a b c i
theorem iter_ok {v:V} {it:It} {w:Value} {Q:Value→Shared→Prop} (e:iterV H v=some it) (hr:HR S as T H s.heap) (vr:VR S.fa as T v w)
    (q:∀ I h',s.heap.get? I=none→(∀ b o,s.heap.get? b=some o→h'.get? b=some o)→IR S as T h' it I→Q (.ref I) { s with heap:=h' }):wpAny (model S.prog S.w) A (pyIter w) Q E s:=by
  cases v with
  | tup l =>
    cases e
    refine tupE_k hr vr fun a ws zq143=>?_
    subst zq143
    intro ht hz hv
    cases vr with
    | tup ht' hz' hv' =>
      exact wpAny_pyIter_tuple (hr.im _ _ ht') (q _ _ size_none (keep_push _) (.tup ⟨_,Heap.get?_push_size _ rfl,rfl,rfl⟩ ht' (by simpa using hv')))
  | str x =>
    obtain⟨ha,rfl⟩:=gd_some e
    refine strE_k vr fun t zq144=>?_
    subst zq144
    intro hz
    refine wpAny_pyIter_ascii ?_ (q _ _ size_none (keep_push _) (.str (i:=0) ⟨_,Heap.get?_push_size _ rfl,rfl,rfl⟩ (by simp)))
    rw [← Array.all_toList]
    simpa using ha
  | loc n =>
    refine atL_some_k e fun l hl e=>?_
    cases e
    refine hr.listAt_k hl vr fun a ws k zq145=>?_
    subst zq145
    intro hp e1 hz hv
    exact wpAny_pyIter_list ⟨_,e1,rfl,k,rfl⟩ (q _ _ size_none (keep_push _) (.lst ⟨_,Heap.get?_push_size _ rfl,rfl,rfl⟩ hp))
  | rng a b c =>
    obtain⟨hc,rfl⟩:=gd_some e
    refine rngE_k hr vr fun p t u x zq146=>?_
    subst zq146
    intro hR
    refine wpAny_pyIter_range hR (rng_small hc.2.2 hc.1 hc.2.1) (q _ _ size_none (keep_push _) ?_)
    rw [rng_len hc.2.2]
    exact .rng (Heap.get?_push_size _ rfl)
  | _=>exact nn e
theorem next_ok {it:It} {I:Addr} {r:Option (V×It)} {Q:Option Value→Shared→Prop} (e:nextI H it=some r) (x:IR S as T s.heap it I) (hI:I ∉ owned as) (hr:HR S as T H s.heap) (hh:A.handled=none)
    (q:match r with
      | none=>∀ h',Heap.ExtBut I s.heap h'→Q none { s with heap:=h' }
      | some (v,it')=>∀ w h' tk,Heap.ExtBut I s.heap h'→IR S as T h' it' I→VR S.fa as T v w→Q (some w) { s with heap:=h',toks:=tk }):wpAny (model S.prog S.w) A (pyNext (.ref I)) Q E s:=by
  have ne:∀ {t:Addr} {i:Im},T t i→t≠I:=fun ht q'=>x.noT hr _ (q'▸ht)
  cases x with
  | tup a b c =>
    rename_i l ws t i
    have hne:=ne b
    cases l with
    | nil =>
      cases e
      refine wpAny_pyNext_tuple_end hh a (hr.im _ _ b) ?_ q
      have:=c.length
      rw [List.length_drop,List.length_nil] at this
      rw [List.getElem?_toArray]
      exact List.getElem?_eq_none_iff.mpr (by omega)
    | cons v l =>
      cases e
      obtain⟨u,hu,vu⟩:=c.get 0 (v:=v) rfl
      rw [List.getElem?_drop] at hu
      refine wpAny_pyNext_tuple_item a (hr.im _ _ b) (x:=u) (by simpa using hu) fun h' a' sb=>q u h' s.toks sb.extBut (.tup a' b ?_) vu
      have:=c.drop 1
      rw [List.drop_drop] at this
      simpa using this
  | str a b =>
    rename_i x t i cs
    cases cs with
    | nil =>
      cases e
      refine wpAny_pyNext_ascii_end hh a ?_ q
      have:=congrArg List.length b
      simp at this
      simp; omega
    | cons c cs =>
      cases e
      have hc:x.cps[i]? = some c:=by
        have:=congrArg (fun z=>z[0]?) b
        simp at this
        exact this.symm
      refine wpAny_pyNext_ascii_item a hc fun h' a' sb=>q _ h' _ sb.extBut (.str a' ?_) (.str [c] _ (by simp [lim]))
      have:=congrArg List.tail b
      simpa using this
  | lst a b =>
    rename_i n i la
    have e:(atL H n fun l=>(match l[i]? with | some v=>some (some (v,It.lst n (i+1))) | none=>some none))=some r:=e
    refine atL_some_k e fun l hl e=>?_
    refine hr.listAt_k hl (.loc b) fun a0 ws k e0 hp e1 hz hv=>?_
    cases e0
    cases hv':l[i]? with
    | some v =>
      rw [hv'] at e
      cases e
      obtain⟨u,hu,vu⟩:=hv.get _ hv'
      exact wpAny_pyNext_list_item a ⟨_,e1,rfl,k,rfl⟩ (x:=u) (by simpa using hu) fun h' a' sb=>q u h' s.toks sb.extBut (.lst a' b) vu
    | none =>
      rw [hv'] at e
      cases e
      refine wpAny_pyNext_list_end hh a ⟨_,e1,rfl,k,rfl⟩ ?_ q
      have:=List.getElem?_eq_none_iff.mp hv'
      have:=hv.length
      simp; omega
  | rng a =>
    rename_i x c k
    cases k with
    | zero =>
      cases e
      exact wpAny_pyNext_range_end hh a (by simp) q
    | succ k =>
      cases e
      refine wpAny_pyNext_range_item a (by omega) fun h' a' sb=>q _ h' _ sb.extBut (.rng ?_) (.int _ _)
      have:((k+1:Nat):Int) - 1=(k:Int):=by omega
      rw [this] at a'
      exact a'
noncomputable def RetA (S:Sur) (as:As) (T:TS) (s:Shared) (env:Env) (nm:Nms) (sl:Sl) (l':Lo) (H':Hp) (Q:Unit→Shared→Prop):Prop :=
  ∀ h' tk as' T',Ext (EX env) as T s.heap as' T' h'→HR S as' T' H' h'→ER S as' T' env nm sl l' h'→Q () { s with heap:=h',toks:=tk }
theorem RetA.from {as1:As} {T1:TS} {h1:Heap} {tk:Tok} {l':Lo} {Q:Unit→Shared→Prop} (k:RetA S as T s env nm sl l' H' Q) (e:Ext (EX env) as T s.heap as1 T1 h1):RetA S as1 T1 { s with heap:=h1,toks:=tk } env nm sl l' H' Q :=
  fun h' tk' as' T' e' hr er=>k h' tk' as' T' (e.trans e') hr er
theorem store_gen {X:Addr→Prop} {i:Nat} {v:V} {n:Str} {w:Value} {Q:Unit→Shared→Prop} (hX:X env.locals) (hC:∀ c,sl[i]? = some (some (n,true))→env.cells.lookup n=some c→X c) (x:ER S as T env nm sl l s.heap) (hr:HR S as T H s.heap) (c:isLoc nm sl i n=true) (vr:VR S.fa as T v w)
    (q:∀ h' tk,Ext X as T s.heap as T h'→HR S as T H h'→ER S as T env nm sl (l.set i (some v)) h'→Q () { s with heap:=h',toks:=tk }):wpAny (model S.prog S.w) A (storeName env n w) Q E s:=by
  refine isLoc_spec_k c fun b e1 e2=>?_
  have hk:env.kindOf n=some (kOf b):=by unfold Env.kindOf; rw [x.names]; exact e2
  have hil:i<l.length:=by rw [x.len]; exact(List.getElem?_eq_some_iff.mp e1).1
  cases b with
  | false =>
    obtain⟨m,hn,hm⟩:=x.loc
    refine wpAny_storeName_local hk hn (fun h' hn' sb=>?_) (by rw [x.kind]; rfl)
    have kp:∀ b o,b≠env.locals→s.heap.get? b=some o→h'.get? b=some o:=fun b o nb e=>(sb.2 b nb).trans e
    have ex:Ext X as T s.heap as T h':=⟨.refl ..,fun b o _ nx e=>kp b o (fun q=>nx (q▸hX)) e,fun b hb e=>?_,fun b hb=>.inl hb⟩
    · refine q h' _ ex (hr.but kp x.frame.1 x.frame.2 (noT_ns hr hn)) ⟨x.kind,x.glob,x.blt,x.names,x.dbg,by rw [List.length_set]; exact x.len,x.nd,⟨_,hn',fun j u y f1 f2=>?_⟩,fun j y f1=>?_,x.cellx,fun y c f1=>?_,x.frame,x.cells⟩
      · by_cases hj:i=j
        · subst hj
          rw [List.getElem?_set_self hil] at f1
          cases f1
          rw [e1] at f2
          cases f2
          exact⟨w,by simp,vr⟩
        · rw [List.getElem?_set_ne hj] at f1
          obtain⟨u',g1,g2⟩:=hm j u y f1 f2
          refine⟨u',?_,g2⟩
          rw [if_neg (fun q=>hj (x.nd i j n false false e1 (by rw [← q]; exact f2)))]; exact g1
      · obtain⟨c,u,g1,g2,g3⟩:=x.cell j y f1
        refine⟨c,u,g1,cell_keep g2 fun o=>kp _ o fun q=>?_,fun v' hv'=>?_⟩
        · obtain⟨oo,es,ep,q1,q2,_⟩:=hn
          obtain⟨o2,q3,q4⟩:=g2
          rw [q,q1] at q3; cases q3
          rw [q2] at q4; first | exact nn q4 | exact ff q4 | cases q4
        · by_cases hj:i=j
          · subst hj; rw [e1] at f1; first | exact nn f1 | exact ff f1 | cases f1
          · rw [List.getElem?_set_ne hj] at hv'
            exact g3 v' hv'
      · obtain⟨u,g2⟩:=x.cella y c f1
        refine⟨u,cell_keep g2 fun o=>kp _ o fun q=>?_⟩
        obtain⟨oo,es,ep,q1,q2,_⟩:=hn
        obtain⟨o2,q3,q4⟩:=g2
        rw [q,q1] at q3; cases q3
        rw [q2] at q4; first | exact nn q4 | exact ff q4 | cases q4
    · by_cases hb':b=env.locals
      · subst hb'
        obtain⟨o,ho⟩:=ns_alive hn'
        rw [ho]; rfl
      · rw [sb.2 b hb']; exact e
  | true =>
    obtain⟨c,u,h1,h2,h3⟩:=x.cell i n e1
    refine wpAny_storeName_cell x.kind hk h1 h2 fun h' hc' sb=>?_
    have kp:∀ b o,b≠c→s.heap.get? b=some o→h'.get? b=some o:=fun b o nb e=>(sb.2 b nb).trans e
    have nlc:env.locals≠c:=fun q=>by
      obtain⟨m,hn,_⟩:=x.loc
      obtain⟨oo,es,ep,q1,q2,_⟩:=hn
      obtain⟨o2,q3,q4⟩:=h2
      rw [← q,q1] at q3; cases q3
      rw [q2] at q4; first | exact nn q4 | exact ff q4 | cases q4
    have ex:Ext X as T s.heap as T h':=⟨.refl ..,fun b o _ nx e=>kp b o (fun q=>nx (q▸hC c e1 h1)) e,fun b hb e=>?_,fun b hb=>.inl hb⟩
    · obtain⟨m,hn,hm⟩:=x.loc
      refine q h' s.toks ex (hr.but kp (x.cells n c h1).1 (x.cells n c h1).2 (noT_cell hr h2)) ⟨x.kind,x.glob,x.blt,x.names,x.dbg,by rw [List.length_set]; exact x.len,x.nd,⟨m,ns_keep hn fun o=>kp _ o nlc,fun j u y f1 f2=>?_⟩,fun j y f1=>?_,x.cellx,fun y c' f1=>?_,x.frame,x.cells⟩
      · by_cases hj:i=j
        · subst hj; rw [e1] at f2; first | exact nn f2 | exact ff f2 | cases f2
        · rw [List.getElem?_set_ne hj] at f1
          exact hm j u y f1 f2
      · by_cases hj:i=j
        · subst hj
          rw [e1] at f1; first | exact nn f1 | exact ff f1 | cases f1
          refine⟨c,some w,h1,hc',fun v' hv'=>?_⟩
          rw [List.getElem?_set_self hil] at hv'
          cases hv'
          exact⟨w,rfl,vr⟩
        · obtain⟨c',u',g1,g2,g3⟩:=x.cell j y f1
          refine⟨c',u',g1,cell_keep g2 fun o=>kp _ o fun q=>?_,fun v' hv'=>?_⟩
          · have:=x.cellx n y c h1 (q▸g1)
            subst this
            exact hj (x.nd i j n true true e1 f1)
          · rw [List.getElem?_set_ne hj] at hv'
            exact g3 v' hv'
      · by_cases hc:c'=c
        · subst hc; exact⟨_,hc'⟩
        · obtain⟨u',g2⟩:=x.cella y c' f1
          exact⟨u',cell_keep g2 fun o=>kp _ o hc⟩
    · by_cases hb':b=c
      · subst hb'
        obtain⟨o,ho⟩:=cell_alive hc'
        rw [ho]; rfl
      · rw [sb.2 b hb']; exact e
theorem store_ok {i:Nat} {v:V} {n:Str} {w:Value} {Q:Unit→Shared→Prop} (x:ER S as T env nm sl l s.heap) (hr:HR S as T H s.heap) (c:isLoc nm sl i n=true) (vr:VR S.fa as T v w)
    (q:RetA S as T s env nm sl (l.set i (some v)) H Q):wpAny (model S.prog S.w) A (storeName env n w) Q E s :=
  store_gen (X:=EX env) (.inl rfl) (fun c _ h=>.inr ⟨_,h⟩) x hr c vr fun h' tk e hr' er'=>q h' tk as T e hr' er'
theorem Ext.nil {X:Addr→Prop} (e:Ext Nil as T h as' T' h') (x:∀ b,X b→b ∉ owned as):Ext X as T h as' T' h':=Ext.weak (X:=Nil) e x
noncomputable def AsS (S:Sur) (call:CallT) (d:Nat) (t:Tg):Prop:=∀ ⦃v:V⦄ ⦃l l':Lo⦄ ⦃H H':Hp⦄,asgT (evE S.P call) t v l H=some (l',H') →
  ∀ ⦃nm:Nms⦄ ⦃sl:Sl⦄ ⦃x:Expr⦄ ⦃s:Shared⦄ ⦃as:As⦄ ⦃T:TS⦄ ⦃env:Env⦄ ⦃A:Around⦄ ⦃E:Value→Shared→Prop⦄ ⦃Q:Unit→Shared→Prop⦄ ⦃w:Value⦄,AOk A d→chT S.G t nm sl x=true→ER S as T env nm sl l s.heap→HR S as T H s.heap→VR S.fa as T v w →
    RetA S as T s env nm sl l' H' Q→wpAny (model S.prog S.w) A (assign x env w) Q E s
noncomputable def AsLS (S:Sur) (call:CallT) (d:Nat) (ts:List Tg):Prop:=∀ ⦃vs:List V⦄ ⦃l l':Lo⦄ ⦃H H':Hp⦄,asgTs (evE S.P call) ts vs l H=some (l',H') →
  ∀ ⦃nm:Nms⦄ ⦃sl:Sl⦄ ⦃xs:List Expr⦄ ⦃s:Shared⦄ ⦃as:As⦄ ⦃T:TS⦄ ⦃env:Env⦄ ⦃A:Around⦄ ⦃E:Value→Shared→Prop⦄ ⦃Q:Unit→Shared→Prop⦄ ⦃ws:List Value⦄,AOk A d→chTs S.G ts nm sl xs=true→ER S as T env nm sl l s.heap→HR S as T H s.heap→VRs S.fa as T vs ws →
    RetA S as T s env nm sl l' H' Q→wpAny (model S.prog S.w) A (assignInOrder ((assignEach xs env).map (·.2)) ws) Q E s
theorem a_loc {i:Nat}:AsS S call d (.loc i):=by
  intro v l l' H H' e nm sl x s as T env A E Q w ao c er hr vr q
  rw [asgT_1] at e; first | exact nn e | exact ff e | cases e
  refine cT_loc_k c fun n p c=>?_
  exact assign_Name (store_ok er hr c vr q)
theorem a_attr (C:Cx S) {o:ME} {a:Nat} (ho:EvS S call d o):AsS S call d (.attr o a):=by
  intro v l l' H H' e nm sl x s as T env A E Q w ao c er hr vr q
  refine as_attr_k e fun ov H1 e1 hs zq148=>?_
  subst zq148
  refine cT_attr_k c fun y p ca co=>?_
  refine wpAny_bind (wpAny_holding (wpAny_mono (ho e1 ao co er hr fun wo h1 tk1 as1 T1 x1 hr1 ro=>?_) (fun _ _ e=>e) fun _ _ e=>e))
  refine wpAny_bind (wpAny_standAt (wpAny_bind (wpAny_holding ?_)))
  refine setA_ok C hr1 ro (vr.mono x1.mono) ca hs fun h2 tk2 as2 T2 x2 hr2=>wpAny_release ?_
  have er1:=er.ext x1
  exact q _ _ _ _ ((x1.nil er.exo).trans (x2.nil er1.exo)) hr2 (er1.ext x2)
theorem a_idx {o i:ME} (ho:EvS S call d o) (hi:EvS S call d i):AsS S call d (.idx o i):=by
  intro v l l' H H' e nm sl x s as T env A E Q w ao c er hr vr q
  refine as_idx_k e fun ov H1 iv H2 e1 e2 hs zq150=>?_
  subst zq150
  refine cT_idx_k c fun y z p _ co ci=>?_
  refine wpAny_bind (wpAny_holding (wpAny_mono (ho e1 ao co er hr fun wo h1 tk1 as1 T1 x1 hr1 ro=>?_) (fun _ _ e=>e) fun _ _ e=>e))
  refine wpAny_bind (wpAny_holding (wpAny_mono (hi e2 ao ci (er.ext x1) hr1 fun wi h2 tk2 as2 T2 x2 hr2 ri=>?_) (fun _ _ e=>e) fun _ _ e=>e))
  refine wpAny_bind (wpAny_standAt (wpAny_bind (wpAny_holding ?_)))
  refine setI_ok hs hr2 (ro.mono x2.mono) ri (vr.mono (x1.trans x2).mono) fun h3 tk3 as3 T3 x3 hr3=>wpAny_release ?_
  have er2:=er.ext (x1.trans x2)
  exact q _ _ _ _ (((x1.trans x2).nil er.exo).trans (x3.nil er2.exo)) hr3 (er2.ext x3)
theorem draw_list {it t:Addr} {items:Array Value} (hne:t≠it):∀(n i:Nat) (s:Shared) (Q:List Value→Shared→Prop),s.heap.IsListIter it t i→s.heap.IsList t items→i+n≤items.size →
    (∀ h',h'.IsListIter it t (i+n)→Heap.SameBut it s.heap h'→Q ((items.toList.drop i).take n) { s with heap:=h' })→wpAny (model S.prog S.w) A (draw (.ref it) n) Q E s
  | 0,i,s,Q,hit,_,_,hQ=>by
    show wpAny _ _ (pure []) Q E s
    exact wpAny_pure (by simpa using hQ s.heap hit (Heap.SameBut.refl ..))
  | n+1,i,s,Q,hit,ht,hle,hQ=>by
    have hlt:i<items.size:=by exact Nat.not_le.mp (lin [_,_,_] (.c 1 (.a (.v 0) (.a (.v 1) (.n 1))) (.v 2) (.c 1 (.v 2) (.v 0) .z)) rfl hle)
    show wpAny _ _ (pyNext (.ref it) >>= _) Q E s
    refine wpAny_bind (wpAny_pyNext_list_item hit ht (x:=items[i]) (by simp [hlt]) fun h₁ hit₁ hs₁=>?_)
    refine wpAny_bind (wpAny_holding (draw_list hne n (i+1) _ _ hit₁ (ht.extBut hs₁.extBut hne) (by exact Nat.not_lt.mp (lin [_,_,_] (.c 1 (.a (.v 0) (.a (.v 1) (.n 1))) (.v 2) (.c 1 (.a (.v 2) (.n 1)) (.a (.a (.v 0) (.n 1)) (.v 1)) .z)) rfl hle)) fun h₂ hit₂ hs₂=>wpAny_pure ?_))
    have hd:items.toList.drop i=items[i]::items.toList.drop (i+1):=by simp [List.drop_eq_getElem_cons,hlt]
    have:=hQ h₂ (by rw [show i+(n+1)=i+1+n by exact lnq [_,_] (.a (.v 0) (.a (.v 1) (.n 1))) (.a (.a (.v 0) (.n 1)) (.v 1)) rfl]; exact hit₂) (hs₁.trans hs₂)
    rw [hd,List.take_succ_cons] at this
    exact this
theorem unpack_list {t:Addr} {items:Array Value} {Q:List Value→Shared→Prop} (hh:A.handled=none) (ht:s.heap.IsList t items)
    (hQ:∀ h',Heap.ExtBut s.heap.objs.size s.heap h'→Q items.toList { s with heap:=h' }):wpAny (model S.prog S.w) A (unpackItems (.ref t) items.size none) Q E s:=by
  have hlt:t≠s.heap.objs.size:=by obtain⟨o,ho,_⟩:=ht; exact Nat.ne_of_lt (Heap.lt_size ho)
  unfold unpackItems
  refine wpAny_bind ?_
  unfold notIterableAtAll
  refine wpAny_bind (wpAny_specialOf ht.typeIs PySem.F.slot_list_iter.lookup ?_)
  refine wpAny_pure ?_
  simp only [Bool.false_eq_true,if_false]
  refine wpAny_bind (wpAny_holding (wpAny_pyIter_list ht ?_))
  refine wpAny_bind (wpAny_holding (draw_list hlt items.size 0 _ _ ⟨_,Heap.get?_push_size _ rfl,rfl,rfl⟩ (ht.push _) (by exact Nat.not_lt.mp (lin [_] (.c 1 (.a (.v 0) (.n 1)) (.a (.n 0) (.v 0)) .z) rfl)) fun h₁ hit₁ hs₁=>?_))
  have hall:List.take items.size (List.drop 0 items.toList)=items.toList:=by
    rw [List.drop_zero]; exact List.take_of_length_le (by simp)
  rw [hall]
  rw [if_neg (by simp)]
  have ht₁:h₁.IsList t items:=(ht.push _).extBut hs₁.extBut hlt
  refine wpAny_bind (wpAny_holding (wpAny_pyNext_list_end hh hit₁ ht₁ (by simp) fun h₂ he₂=>?_))
  simp only [Option.isSome_none,Bool.false_eq_true,if_false]
  exact wpAny_pure (hQ h₂ fun b o hb e=>he₂ b o hb (hs₁.extBut b o hb (Heap.get?_push_of_some _ e)))
theorem unpk_ok {v:V} {vs:List V} {w:Value} {Q:List Value→Shared→Prop} {n:Nat} (e:unpk H v=some vs) (hn:n=vs.length) (hh:A.handled=none) (hr:HR S as T H s.heap) (vr:VR S.fa as T v w)
    (q:∀ ws h',VRs S.fa as T vs ws→(∀ b o,s.heap.get? b=some o→h'.get? b=some o)→Q ws { s with heap:=h' }):wpAny (model S.prog S.w) A (unpackItems w n none) Q E s:=by
  have low:∀ {h':Heap},Heap.ExtBut s.heap.objs.size s.heap h'→∀ b o,s.heap.get? b=some o→h'.get? b=some o:=fun x b o e=>x b o (Nat.ne_of_lt (Heap.lt_size e)) e
  cases v with
  | tup l =>
    cases e
    refine tupE_k hr vr fun a ws zq152=>?_
    subst zq152
    intro ht hz hv
    have:n=ws.toArray.size:=by rw [hn,List.size_toArray,hv.length]
    subst this
    exact wpAny_unpackItems_tuple hh ht fun h' x=>by simpa using q ws h' hv (low x)
  | loc n' =>
    refine atL_some_k e fun l hl e=>?_
    cases e
    refine hr.listAt_k hl vr fun a ws k zq153=>?_
    subst zq153
    intro hp e1 hz hv
    have:n=ws.toArray.size:=by rw [hn,List.size_toArray,hv.length]
    subst this
    exact unpack_list hh ⟨_,e1,rfl,k,rfl⟩ fun h' x=>by simpa using q ws h' hv (low x)
  | _=>exact nn e
theorem asgTs_len {ev:ME→Lo→Hp→Option (V×Hp)}:∀ {ts:List Tg} {vs:List V} {l l':Lo} {H H':Hp},asgTs ev ts vs l H=some (l',H')→ts.length=vs.length
  | [],[],_,_,_,_,_=>rfl
  | [],_::_,_,_,_,_,e=>nn e
  | _::_,[],_,_,_,_,e=>nn e
  | t::ts,v::vs,_,_,_,_,e=>by
    rw [asgTs_2] at e
    unfold bndS at e
    split at e
    · rw [List.length_cons,List.length_cons,asgTs_len e]
    · first | exact ff e | exact nn e | cases e
theorem chT_star {G:Str→Option GV} {t:Tg} {x:Expr} (c:chT G t nm sl x=true):notStar x=true:=by
  cases t with
  | loc=>refine cT_loc_k c ?_; intros; rfl
  | attr=>refine cT_attr_k c ?_; intros; rfl
  | idx=>refine cT_idx_k c ?_; intros; rfl
  | tup=>refine cT_tup_k c ?_; intros; rfl
theorem each_cons {x:Expr} {xs:List Expr} (h:notStar x=true):assignEach (x::xs) env=(false,assign x env)::assignEach xs env:=by
  cases x <;> first | rfl | exact ff h
theorem chTs_each {G:Str→Option GV}:∀ {ts:List Tg} {xs:List Expr},chTs G ts nm sl xs=true→(assignEach xs env).length=ts.length∧(assignEach xs env).findIdx? (·.1)=none
  | [],xs,c=>by cases cTs_nil c; exact⟨rfl,rfl⟩
  | t::ts,xs,c=>by
    refine cTs_cons_k c fun x xs c1 c2=>?_
    obtain⟨h2,h3⟩:=chTs_each c2
    rw [each_cons (chT_star c1)]
    refine⟨by rw [List.length_cons,List.length_cons,h2],?_⟩
    rw [List.findIdx?_cons,if_neg Bool.false_ne_true,h3]; rfl
theorem a_nil:AsLS S call d []:=by
  intro vs l l' H H' e nm sl xs s as T env A E Q ws ao c er hr vr q
  cases vs with
  | nil =>
    rw [asgTs_1] at e; first | exact nn e | exact ff e | cases e
    cases vr
    cases cTs_nil c
    exact wpAny_pure (q s.heap s.toks as T (.refl ..) hr er)
  | cons=>exact nn e
theorem a_cons {t:Tg} {ts:List Tg} (ht:AsS S call d t) (hts:AsLS S call d ts):AsLS S call d (t::ts):=by
  intro vs l l' H H' e nm sl xs s as T env A E Q ws ao c er hr vr q
  cases vr with
  | nil=>exact nn e
  | @cons v0 w1 l0 ws1 v1 v2 =>
    refine bndS_some_k (m:=asgT (evE S.P call) t v0 l H) e fun l1 H1 e1 e=>?_
    refine cTs_cons_k c fun x xs c1 c2=>?_
    rw [each_cons (chT_star c1)]
    show wpAny _ A (do holding ws1 (assign x env w1); assignInOrder ((assignEach xs env).map (·.2)) ws1) Q E s
    refine wpAny_bind (wpAny_holding (ht e1 ao c1 er hr v1 fun h' tk as' T' x' hr' er'=>?_))
    exact hts e ao c2 er' hr' (v2.mono x'.mono) (q.from x')
theorem a_tup {ts:List Tg} (hts:AsLS S call d ts):AsS S call d (.tup ts):=by
  intro v l l' H H' e nm sl x s as T env A E Q w ao c er hr vr q
  refine as_tup_k e fun vs hu e=>?_
  refine cT_tup_k c fun xs _ pos c=>?_
  obtain⟨c1,c2⟩:=chTs_each (env:=env) c
  refine wpAny_bind (wpAny_standAt ?_)
  unfold unpack
  rw [c2]
  refine wpAny_bind (wpAny_holding (unpk_ok hu (c1.trans (asgTs_len e)) ao.handled hr vr fun ws h' vv kp=>?_))
  have x0:Ext Nil as T s.heap as T h':=.keep kp
  exact hts e ao c (er.ext x0) (hr.keep kp) vv ((q.from (tk:=s.toks) (x0.nil er.exo)))
end
end Mine
namespace Mine
inductive FlR (S:Sur) (as:As) (T:TS):Fl→Flow→Prop
  | next:FlR S as T .next .next
  | brk:FlR S as T .brk .brk
  | cont:FlR S as T .cont .cont
  | ret {v:V} {w:Value}:VR S.fa as T v w→FlR S as T (.ret v) (.ret w)
noncomputable def RetS (S:Sur) (as:As) (T:TS) (s:Shared) (env:Env) (nm:Nms) (sl:Sl) (fl:Fl) (l':Lo) (H':Hp) (Q:Flow→Shared→Prop):Prop :=
  ∀ h' tk as' T' f,Ext (EX env) as T s.heap as' T' h'→HR S as' T' H' h'→ER S as' T' env nm sl l' h'→FlR S as' T' fl f→Q f { s with heap:=h',toks:=tk }
noncomputable def StS (S:Sur) (call:CallT) (d:Nat) (st:MS):Prop:=∀ ⦃l l':Lo⦄ ⦃H H':Hp⦄ ⦃fl:Fl⦄,exS S.P call st l H=some (fl,l',H') →
  ∀ ⦃nm:Nms⦄ ⦃sl:Sl⦄ ⦃x:Stmt⦄ ⦃s:Shared⦄ ⦃as:As⦄ ⦃T:TS⦄ ⦃env:Env⦄ ⦃A:Around⦄ ⦃E:Value→Shared→Prop⦄ ⦃Q:Flow→Shared→Prop⦄,AOk A d→chS S.G st nm sl x=true→ER S as T env nm sl l s.heap→HR S as T H s.heap →
    RetS S as T s env nm sl fl l' H' Q→wpAny (model S.prog S.w) A (exec x env) Q E s
noncomputable def BkS (S:Sur) (call:CallT) (d:Nat) (b:List MS):Prop:=∀ ⦃l l':Lo⦄ ⦃H H':Hp⦄ ⦃fl:Fl⦄,exB S.P call b l H=some (fl,l',H') →
  ∀ ⦃nm:Nms⦄ ⦃sl:Sl⦄ ⦃xs:List Stmt⦄ ⦃s:Shared⦄ ⦃as:As⦄ ⦃T:TS⦄ ⦃env:Env⦄ ⦃A:Around⦄ ⦃E:Value→Shared→Prop⦄ ⦃Q:Flow→Shared→Prop⦄,AOk A d→chB S.G b nm sl xs=true→ER S as T env nm sl l s.heap→HR S as T H s.heap →
    RetS S as T s env nm sl fl l' H' Q→wpAny (model S.prog S.w) A (execs xs env) Q E s
section
variable {S:Sur} {call:CallT} {d:Nat} {as as':As} {T T':TS} {H H':Hp} {h h':Heap} {s:Shared} {env:Env} {nm:Nms} {sl:Sl} {l:Lo} {A:Around} {E:Value→Shared→Prop}
theorem RetS.from {as1:As} {T1:TS} {h1:Heap} {tk:Tok} {fl:Fl} {l':Lo} {Q:Flow→Shared→Prop} (k:RetS S as T s env nm sl fl l' H' Q) (e:Ext (EX env) as T s.heap as1 T1 h1):RetS S as1 T1 { s with heap:=h1,toks:=tk } env nm sl fl l' H' Q :=
  fun h' tk' as' T' f e' hr er fr=>k h' tk' as' T' f (e.trans e') hr er fr
theorem b_nil:BkS S call d []:=by
  intro l l' H H' fl e nm sl xs s as T env A E Q ao c er hr q
  rw [exB_1] at e; first | exact nn e | exact ff e | cases e
  cases cb_nil c
  exact wpAny_execs_nil (q s.heap s.toks as T _ (.refl ..) hr er .next)
theorem b_cons {st:MS} {b:List MS} (h1:StS S call d st) (h2:BkS S call d b):BkS S call d (st::b):=by
  intro l l' H H' fl e nm sl xs s as T env A E Q ao c er hr q
  refine cb_cons_k c fun x ys c1 c2=>?_
  have e:(match exS S.P call st l H with
    | some (.next,l,H)=>exB S.P call b l H
    | x=>x)=some (fl,l',H'):=e
  cases e1:exS S.P call st l H with
  | none=>rw [e1] at e; exact nn e
  | some z =>
    obtain⟨f,l1,H1⟩:=z
    rw [e1] at e
    refine wpAny_execs_cons (h1 e1 ao c1 er hr fun h' tk as' T' g x' hr' er' fr=>?_)
    cases fr with
    | next=>exact h2 e ao c2 er' hr' (q.from x')
    | brk=>cases e; exact q _ _ _ _ _ x' hr' er' .brk
    | cont=>cases e; exact q _ _ _ _ _ x' hr' er' .cont
    | ret v=>cases e; exact q _ _ _ _ _ x' hr' er' (.ret v)
theorem not_int (er:ER S as T env nm sl l h):interactive env=false:=by
  unfold interactive
  rw [er.kind]; rfl
theorem sw_none {x:Expr} (h:notComp x=true) (t:Option Expr) (n:Nat):swapsWith x t n env=pure false:=by
  cases x <;> first | rfl | exact ff h | exact nn h | cases h
theorem t_bad:StS S call d .bad:=by
  intro l l' H H' fl e; exact nn e
theorem t_expr {e0:ME} (h0:EvS S call d e0):StS S call d (.expr e0):=by
  intro l l' H H' fl e nm sl x s as T env A E Q ao c er hr q
  refine ex_expr_k e fun v H1 e1 e=>?_
  cases e
  refine cs_expr_k c fun y p c1 c2=>?_
  refine wpAny_Expr_any (h0 e1 ao c2 er hr fun w h1 tk1 as1 T1 x1 hr1 vr=>?_) (not_int er) (sw_none c1 _ _)
  exact q _ _ _ _ _ (x1.nil er.exo) hr1 (er.ext x1) .next
theorem t_ret {e0:ME} (h0:EvS S call d e0):StS S call d (.ret e0):=by
  intro l l' H H' fl e nm sl x s as T env A E Q ao c er hr q
  refine ex_ret_k e fun v H1 e1 e=>?_
  cases e
  refine cs_ret_k c fun y p c=>?_
  exact wpAny_Return_some (h0 e1 ao c er hr fun w h1 tk1 as1 T1 x1 hr1 vr=>q _ _ _ _ _ (x1.nil er.exo) hr1 (er.ext x1) (.ret vr))
theorem t_brk:StS S call d .brk:=by
  intro l l' H H' fl e nm sl x s as T env A E Q ao c er hr q
  have e:(some (Fl.brk,l,H):SR)=some (fl,l',H'):=e
  cases e
  refine cs_brk c fun p=>?_
  exact wpAny_Break (q s.heap s.toks as T _ (.refl ..) hr er .brk)
theorem t_cont:StS S call d .cont:=by
  intro l l' H H' fl e nm sl x s as T env A E Q ao c er hr q
  have e:(some (Fl.cont,l,H):SR)=some (fl,l',H'):=e
  cases e
  refine cs_cont c fun p=>?_
  exact wpAny_Continue (q s.heap s.toks as T _ (.refl ..) hr er .cont)
theorem st_ife {t:ME} {b o:List MS} (ht:TrS S call d t) (hb:BkS S call d b) (ho:BkS S call d o):StS S call d (.ife t b o):=by
  intro l l' H H' fl e nm sl x s as T env A E Q ao c er hr q
  refine cs_ife_k c fun y z w p c1 c2 c3=>?_
  obtain⟨H1,e⟩:=ex_ife e
  rcases e with⟨e1,e⟩ | ⟨e1,e⟩
  · exact wpAny_If (ht e1 ao c1 er hr fun h1 tk1 as1 T1 x1 hr1=>hb e ao c2 (er.ext x1) hr1 (q.from (x1.nil er.exo)))
  · exact wpAny_If (ht e1 ao c1 er hr fun h1 tk1 as1 T1 x1 hr1=>ho e ao c3 (er.ext x1) hr1 (q.from (x1.nil er.exo)))
theorem t_auga (C:Cx S) {o:ME} {a:Nat} {op:BOp} {e0:ME} (ho:EvS S call d o) (h0:EvS S call d e0):StS S call d (.auga o a op e0):=by
  intro l l' H H' fl e nm sl x s as T env A E Q ao c er hr q
  refine ex_auga_k e fun ov H1 u b H2 r H3 e1 hu e2 hr' hs e=>?_
  cases e
  refine cs_auga_k c fun y yp o' z p c1 c3 c4 c5 c6=>?_
  refine wpAny_AugAssign_AttributeAny (ho e1 ao c5 er hr fun wo h1 tk1 as1 T1 x1 hr1 ro=>?_)
  refine getA_ok C hr1 ro hu fun wu tk2 ru=>?_
  refine h0 e2 ao c6 (s:={ s with heap:=h1,toks:=tk2 }) (er.ext x1) hr1 fun wb h3 tk3 as3 T3 x3 hr3 rb=>?_
  refine aug_ok hr' c1 hr3 (ru.mono x3.mono) rb fun w h4 tk4 as4 T4 x4 hr4 vr=>?_
  refine setA_ok C hr4 (ro.mono (x3.trans x4).mono) vr c3 hs fun h5 tk5 as5 T5 x5 hr5=>?_
  have ex:=((x1.trans x3).trans x4).trans x5
  exact q _ _ _ _ _ (ex.nil er.exo) hr5 (er.ext ex) .next
theorem asg_plain {y x:Expr} {pos:Pos} {Q:Flow→Shared→Prop} (hy:notStar y=true) (hs:swapsWith x (some y) pos.line env=pure false) (hw:swappedStores [y] x env=pure none)
    (h:wpAny (model S.prog S.w) A (eval x env) (fun v s₁=>wpAny (model S.prog S.w) A (assign y env v) (fun _=>Q .next) E s₁) E s):wpAny (model S.prog S.w) A (exec (.Assign [y] x pos) env) Q E s:=by
  refine wpAny_Assign_stores (wpAny_mono h (fun v s₁ h₁=>?_) fun _ _ e=>e) hs hw
  have h1:assignEach [y] env=[(false,assign y env)]:=by cases y <;> first | rfl | exact ff hy | exact nn hy | cases hy
  rw [h1]
  exact h₁
theorem swp_eq (ts vs:List Expr) (k k2:Nat) (p p2:Pos) (env:Env):swappedStores [.Tuple ts k p] (.Tuple vs k2 p2) env =
    (if(!(ts.length == 2 || ts.length == 3) || vs.length != ts.length || env.blockKind != .function)=true then pure none
    else if vs.any isStarred=true then pure none
    else if((ts.filterMap (locName env.scope.names ((ts.head?.map (·.pos.line)).getD 0))).length != ts.length || (ts.filterMap (locName env.scope.names ((ts.head?.map (·.pos.line)).getD 0))).eraseDups.length != (ts.filterMap (locName env.scope.names ((ts.head?.map (·.pos.line)).getD 0))).length)=true then pure none
    else if vs.all (foldedForSure 8)=true then pure none
    else if vs.all (constantsAlone 8)=true then(do unsupported "assign.tuple-of-constant-expressions:order-of-the-stores"; pure (some (ts.filterMap (locName env.scope.names ((ts.head?.map (·.pos.line)).getD 0)))))
    else pure (some (ts.filterMap (locName env.scope.names ((ts.head?.map (·.pos.line)).getD 0))))):=rfl
theorem none_r {m:Sem (Option (List Str))} {r:Option (List Str)} (h:some none=some r) (p:m=pure none):m=pure r:=by cases h; exact p
theorem casc_ok {m:Sem (Option (List Str))} {c1 c2 c3 c4 c5:Bool} {g:List Str} {r:Option (List Str)} (h:casc c1 c2 c3 c4 c5 g=some r) :
    (if c1=true then pure none else if c2=true then pure none else if c3=true then pure none else if c4=true then pure none else if c5=true then m else pure (some g):Sem (Option (List Str)))=pure r:=by
  cases c1 with
  | true=>cases h; rfl
  | false=>cases c2 with
    | true=>cases h; rfl
    | false=>cases c3 with
      | true=>cases h; rfl
      | false=>cases c4 with
        | true=>cases h; rfl
        | false=>cases c5 with
          | true=>exact nn h
          | false=>cases h; rfl
theorem swp_ok {y x:Expr} {r:Option (List Str)} (hk:env.scope.kind=.function) (h:swpQ env.scope.names y x=some r):swappedStores [y] x env=pure r:=by
  cases y with
  | Tuple ts k p =>
    have h:(match (generalizing:=false) x with | .Tuple vs _ _=>tupQ env.scope.names ts vs | _=>some none)=some r:=h
    cases x with
    | Tuple vs k2 p2 =>
      have hb:env.blockKind=.function:=by unfold Env.blockKind; rw [hk]; rfl
      rw [swp_eq,hb]
      simp only [bne_self_eq_false,Bool.or_false]
      exact casc_ok h
    | _=>exact none_r h rfl
  | List=>exact nn h
  | _=>exact none_r h rfl
theorem swap_ok {y x:Expr} {pos:Pos} {ns:List Str} {Q:Flow→Shared→Prop} {ts:List Expr} {k:Nat} {tp:Pos} (hy:y=.Tuple ts k tp) (hs:swapsWith x (some y) pos.line env=pure false) (hw:swappedStores [y] x env=pure (some ns))
    (h:wpAny (model S.prog S.w) A (eval x env) (fun v s₁=>wpAny (model S.prog S.w) A (unpackItems v ns.length none) (fun items s₂=>wpAny (model S.prog S.w) A (assignInOrder (ns.reverse.map fun n=>bindName env n) items.reverse) (fun _=>Q .next) E s₂) E s₁) E s) :
    wpAny (model S.prog S.w) A (exec (.Assign [y] x pos) env) Q E s:=by
  subst hy
  exact Assign_Tuple_swapped h hs hw
theorem one_ok {w:Value} {ws:List Value} {ts:List (Value→Sem Unit)} {n:Str} {M:Model} {Q:Unit→Shared→Prop} (h:wpAny M A (storeName env n w) (fun _ s₁=>wpAny M A (assignInOrder ts ws) Q E s₁) E s) :
    wpAny M A (assignInOrder ((fun w=>bindName env n w)::ts) (w::ws)) Q E s:=by
  show wpAny M A (do holding ws (bindName env n w); assignInOrder ts ws) Q E s
  exact wpAny_bind (wpAny_holding (wpAny_bindName h))
theorem swap2 {i j:Nat} {a b:Str} {v1 v2:V} {w1 w2:Value} {Q:Unit→Shared→Prop} (er:ER S as T env nm sl l s.heap) (hr:HR S as T H s.heap) (hn:a≠b) (c1:isLoc nm sl i a=true) (c2:isLoc nm sl j b=true) (r1:VR S.fa as T v1 w1) (r2:VR S.fa as T v2 w2)
    (q:RetA S as T s env nm sl ((l.set i (some v1)).set j (some v2)) H Q):wpAny (model S.prog S.w) A (assignInOrder [fun w=>bindName env b w,fun w=>bindName env a w] [w2,w1]) Q E s:=by
  have hij:i≠j:=fun q=>by
    refine isLoc_spec_k c1 fun b1 e1 _=>?_
    refine isLoc_spec_k c2 fun b2 e2 _=>?_
    rw [q] at e1; rw [e1] at e2; cases e2; exact hn rfl
  refine one_ok (store_ok er hr c2 r2 fun h1 tk1 as1 T1 x1 hr1 er1=>?_)
  refine one_ok (store_ok er1 hr1 c1 (r1.mono x1.mono) fun h2 tk2 as2 T2 x2 hr2 er2=>?_)
  rw [List.set_comm _ _ (Ne.symm hij)] at er2
  exact wpAny_pure (q _ _ _ _ (x1.trans x2) hr2 er2)
theorem swap3 {i j k:Nat} {a b c:Str} {v1 v2 v3:V} {w1 w2 w3:Value} {Q:Unit→Shared→Prop} (er:ER S as T env nm sl l s.heap) (hr:HR S as T H s.heap) (hab:a≠b) (hac:a≠c) (hbc:b≠c) (c1:isLoc nm sl i a=true) (c2:isLoc nm sl j b=true) (c3:isLoc nm sl k c=true)
    (r1:VR S.fa as T v1 w1) (r2:VR S.fa as T v2 w2) (r3:VR S.fa as T v3 w3) (q:RetA S as T s env nm sl (((l.set i (some v1)).set j (some v2)).set k (some v3)) H Q) :
    wpAny (model S.prog S.w) A (assignInOrder [fun w=>bindName env c w,fun w=>bindName env b w,fun w=>bindName env a w] [w3,w2,w1]) Q E s:=by
  have ne:∀ {i j:Nat} {a b:Str},a≠b→isLoc nm sl i a=true→isLoc nm sl j b=true→i≠j:=fun hn c1 c2 q=>by
    refine isLoc_spec_k c1 fun b1 e1 _=>?_
    refine isLoc_spec_k c2 fun b2 e2 _=>?_
    rw [q] at e1; rw [e1] at e2; cases e2; exact hn rfl
  refine one_ok (store_ok er hr c3 r3 fun h1 tk1 as1 T1 x1 hr1 er1=>?_)
  refine one_ok (store_ok er1 hr1 c2 (r2.mono x1.mono) fun h2 tk2 as2 T2 x2 hr2 er2=>?_)
  refine one_ok (store_ok er2 hr2 c1 ((r1.mono x1.mono).mono x2.mono) fun h3 tk3 as3 T3 x3 hr3 er3=>?_)
  have eq:((l.set k (some v3)).set j (some v2)).set i (some v1)=((l.set i (some v1)).set j (some v2)).set k (some v3):=by
    rw [List.set_comm _ _ (Ne.symm (ne hbc c2 c3)),List.set_comm _ _ (Ne.symm (ne hac c1 c3)),List.set_comm _ _ (Ne.symm (ne hab c1 c2))]
  rw [eq] at er3
  exact wpAny_pure (q _ _ _ _ ((x1.trans x2).trans x3) hr3 er3)
end
end Mine
namespace Mine
section
variable {S:Sur} {call:CallT} {d:Nat} {as as':As} {T T':TS} {H H':Hp} {h h':Heap} {s:Shared} {env:Env} {nm:Nms} {sl:Sl} {l:Lo} {A:Around} {E:Value→Shared→Prop}
theorem sn {p:Prop} {ns:List Str} (h:(some none:Option (Option (List Str)))=some (some ns)):p:=by cases h
theorem casc_some {c1 c2 c3 c4 c5:Bool} {g ns:List Str} (h:casc c1 c2 c3 c4 c5 g=some (some ns)):g=ns∧c3=false:=by
  cases c1 with
  | true=>cases h
  | false=>cases c2 with
    | true=>cases h
    | false=>cases c3 with
      | true=>cases h
      | false=>cases c4 with
        | true=>cases h
        | false=>cases c5 with
          | true=>exact nn h
          | false=>cases h; exact⟨rfl,rfl⟩
theorem swpQ_some {y x:Expr} {ns:List Str} (h:swpQ nm y x=some (some ns)):(∃ ts k p,y=.Tuple ts k p)∧ns.eraseDups.length=ns.length:=by
  cases y with
  | Tuple ts k p =>
    refine⟨⟨_,_,_,rfl⟩,?_⟩
    have h:(match (generalizing:=false) x with | .Tuple vs _ _=>tupQ nm ts vs | _=>some none)=some (some ns):=h
    cases x with
    | Tuple vs k2 p2 =>
      obtain⟨rfl,h2⟩:=casc_some h
      exact Decidable.byContradiction fun z=>ff (h2.symm.trans (by rw [bne_iff_ne.mpr z,Bool.or_true]))
    | _=>exact sn h
  | List=>exact nn h
  | _=>exact sn h
theorem dups2 {a b:Str} (h:[a,b].eraseDups.length=2):a≠b:=by
  intro q; subst q; simp [List.eraseDups_cons] at h
theorem dups3_k {a b c:Str} (h:[a,b,c].eraseDups.length=3) {zg:Prop} (zk:(a≠b)→(a≠c)→(b≠c)→zg):zg:=by
  refine zk (fun q=>?_) (fun q=>?_) (fun q=>?_)
  · subst q
    simp only [List.eraseDups_cons,List.filter_cons,beq_self_eq_true,Bool.not_true,Bool.false_eq_true,if_false,List.length_cons] at h
    split at h <;> simp [List.eraseDups_cons] at h
  · subst q
    simp only [List.eraseDups_cons,List.filter_cons,beq_self_eq_true,Bool.not_true,Bool.false_eq_true,if_false,List.length_cons] at h
    split at h <;> simp [List.eraseDups_cons] at h
  · subst q
    simp only [List.eraseDups_cons,List.filter_cons,beq_self_eq_true,Bool.not_true,Bool.false_eq_true,if_false,List.length_cons] at h
    split at h <;> simp [List.eraseDups_cons] at h
theorem locs0 {ns:List Str} (h:isLocs nm sl [] ns=true):ns=[]:=by
  cases ns with
  | nil=>rfl
  | cons=>exact ff h
theorem locs_cons_k {i:Nat} {is:List Nat} {ns:List Str} (h:isLocs nm sl (i::is) ns=true) {zg:Prop} (zk:∀ a,∀ r,(ns=a::r)→(isLoc nm sl i a=true)→(isLocs nm sl is r=true)→zg):zg:=by
  obtain⟨a,r,zh1,zh2,zh3⟩:∃ a r,ns=a::r∧isLoc nm sl i a=true∧isLocs nm sl is r=true:=by
    cases ns with
    | nil=>exact ff h
    | cons a r=>exact⟨a,r,rfl,and2 h⟩
  exact zk a r zh1 zh2 zh3
theorem locs2_k {i j:Nat} {ns:List Str} (h:isLocs nm sl [i,j] ns=true) {zg:Prop} (zk:∀ a,∀ b,(ns=[a,b])→(isLoc nm sl i a=true)→(isLoc nm sl j b=true)→zg):zg:=by
  refine locs_cons_k h fun a r zq165=>?_
  subst zq165
  intro h1 h
  refine locs_cons_k h fun b r zq166=>?_
  subst zq166
  intro h2 h
  cases locs0 h
  exact zk a b rfl h1 h2
theorem locs3_k {i j k:Nat} {ns:List Str} (h:isLocs nm sl [i,j,k] ns=true) {zg:Prop} (zk:∀ a,∀ b,∀ c,(ns=[a,b,c])→(isLoc nm sl i a=true)→(isLoc nm sl j b=true)→(isLoc nm sl k c=true)→zg):zg:=by
  refine locs_cons_k h fun a r zq167=>?_
  subst zq167
  intro h1 h
  refine locs2_k h fun b c zq168=>?_
  subst zq168
  intro h2 h3
  exact zk a b c rfl h1 h2 h3
section
variable {ev:ME→Lo→Hp→Option (V×Hp)} {v:V} {l1:Lo} {H2:Hp}
theorem tup_inv_k {ts:List Tg} (e:asgT ev (.tup ts) v l H=some (l1,H2)) {zg:Prop} (zk:∀ vs,(unpk H v=some vs)→(asgTs ev ts vs l H=some (l1,H2))→zg):zg:=by
  obtain⟨vs,zh1,zh2⟩:∃ vs,unpk H v=some vs∧asgTs ev ts vs l H=some (l1,H2):=by
    exact as_tup e
  exact zk vs zh1 zh2
theorem asgs_nil_k {vs:List V} (e:asgTs ev [] vs l H=some (l1,H2)) {zg:Prop} (zk:(vs=[])→(l1=l)→(H2=H)→zg):zg:=by
  cases vs with
  | nil=>rw [asgTs_1] at e; cases e; exact zk rfl rfl rfl
  | cons=>exact nn e
theorem asgs_loc_k {i:Nat} {ts:List Tg} {vs:List V} (e:asgTs ev (.loc i::ts) vs l H=some (l1,H2)) {zg:Prop} (zk:∀ a,∀ r,(vs=a::r)→(asgTs ev ts r (l.set i (some a)) H=some (l1,H2))→zg):zg:=by
  cases vs with
  | nil=>exact nn e
  | cons a r=>rw [asgTs_2,asgT_1] at e; exact zk a r rfl e
theorem asg2_k {i j:Nat} (e:asgT ev (.tup [.loc i,.loc j]) v l H=some (l1,H2)) {zg:Prop} (zk:∀ a,∀ b,(unpk H v=some [a,b])→(l1=(l.set i (some a)).set j (some b))→(H2=H)→zg):zg:=by
  refine tup_inv_k e fun vs hu e1=>?_
  refine asgs_loc_k e1 fun a r1 zq169=>?_
  subst zq169
  intro e2
  refine asgs_loc_k e2 fun b r2 zq170=>?_
  subst zq170
  intro e3
  refine asgs_nil_k e3 fun zq171=>?_
  subst zq171
  intro h1 h2
  exact zk a b hu h1 h2
theorem asg3_k {i j k:Nat} (e:asgT ev (.tup [.loc i,.loc j,.loc k]) v l H=some (l1,H2)) {zg:Prop} (zk:∀ a,∀ b,∀ c,(unpk H v=some [a,b,c])→(l1=((l.set i (some a)).set j (some b)).set k (some c))→(H2=H)→zg):zg:=by
  refine tup_inv_k e fun vs hu e1=>?_
  refine asgs_loc_k e1 fun a r1 zq172=>?_
  subst zq172
  intro e2
  refine asgs_loc_k e2 fun b r2 zq173=>?_
  subst zq173
  intro e3
  refine asgs_loc_k e3 fun c r3 zq174=>?_
  subst zq174
  intro e4
  refine asgs_nil_k e4 fun zq175=>?_
  subst zq175
  intro h1 h2
  exact zk a b c hu h1 h2
end
theorem sw_inv {t:Tg} {r:Option (Option (List Str))} (h:swOk nm sl t r=true):r=some none∨∃ ns,r=some (some ns)∧((∃ i j,t=.tup [.loc i,.loc j]∧isLocs nm sl [i,j] ns=true)∨(∃ i j k,t=.tup [.loc i,.loc j,.loc k]∧isLocs nm sl [i,j,k] ns=true)):=by
  cases r with
  | none=>exact ff h
  | some r=>cases r with
    | none=>exact .inl rfl
    | some ns =>
      refine .inr ⟨ns,rfl,?_⟩
      have lo:∀ {t:Tg} {f:Nat→Bool},(match locOf t with | none=>false | some i=>f i)=true→∃ i,t=.loc i∧f i=true:=by
        intro t f h
        cases t with
        | loc i=>exact⟨i,rfl,h⟩
        | _=>exact ff h
      cases t with
      | tup ts =>
        have h:swTs nm sl ts ns=true:=h
        cases ts with
        | nil=>exact ff h
        | cons t ts =>
          obtain⟨i,rfl,h⟩:=lo h
          cases ts with
          | nil=>exact ff h
          | cons t ts =>
            obtain⟨j,rfl,h⟩:=lo h
            cases ts with
            | nil=>exact .inl ⟨i,j,rfl,h⟩
            | cons t ts =>
              obtain⟨k,rfl,h⟩:=lo h
              cases ts with
              | nil=>exact .inr ⟨i,j,k,rfl,h⟩
              | cons=>exact ff h
      | _=>exact ff h
theorem asg_ok {t:Tg} {e0:ME} (ht:AsS S call d t) (h0:EvS S call d e0) {l':Lo} {fl:Fl} (e:exS S.P call (.asg t e0) l H=some (fl,l',H')) {y x:Expr} {pos:Pos} {as:As} {T:TS} {Q:Flow→Shared→Prop} (ao:AOk A d)
    (c1:chT S.G t nm sl y=true) (c2:chE S.G e0 nm sl x=true) (hc:notComp x=true)
    (c3:swOk nm sl t (swpQ nm y x)=true) (er:ER S as T env nm sl l s.heap) (hr:HR S as T H s.heap) (q:RetS S as T s env nm sl fl l' H' Q):wpAny (model S.prog S.w) A (exec (.Assign [y] x pos) env) Q E s:=by
  refine ex_asg_k e fun v H1 l1 H2 e1 e2 e=>?_
  cases e
  have hs:=sw_none (env:=env) hc (some y) pos.line
  rcases sw_inv c3 with hq | ⟨ns,hq,hk⟩
  · refine asg_plain (chT_star c1) hs (swp_ok er.kind (er.names▸hq)) (h0 e1 ao c2 er hr fun w h1 tk1 as1 T1 x1 hr1 vr=>?_)
    exact ht e2 ao c1 (er.ext x1) hr1 vr fun h2 tk2 as2 T2 x2 hr2 er2=>q _ _ _ _ _ ((x1.nil er.exo).trans x2) hr2 er2 .next
  · obtain⟨⟨ts,k,tp,hy⟩,hd⟩:=swpQ_some hq
    refine swap_ok hy hs (swp_ok er.kind (er.names▸hq)) (h0 e1 ao c2 er hr fun w h1 tk1 as1 T1 x1 hr1 vr=>?_)
    have er1:=er.ext x1
    rcases hk with⟨i,j,rfl,c4⟩ | ⟨i,j,k,rfl,c4⟩
    · refine locs2_k c4 fun a b zq176=>?_
      subst zq176
      intro g1 g2
      refine asg2_k e2 fun v1 v2 hu zq177=>?_
      subst zq177
      intro zq178
      subst zq178
      refine unpk_ok hu rfl ao.handled hr1 vr fun ws h2 vv kp=>?_
      refine vrs2_k vv fun w1 w2 zq179=>?_
      subst zq179
      intro r1 r2
      refine swap2 (er1.ext (.keep kp)) (hr1.keep kp) (dups2 hd) g1 g2 r1 r2 fun h3 tk3 as3 T3 x3 hr3 er3=>?_
      exact q _ _ _ _ _ (((x1.trans (.keep kp)).nil er.exo).trans x3) hr3 er3 .next
    · refine locs3_k c4 fun a b c zq180=>?_
      subst zq180
      intro g1 g2 g3
      refine asg3_k e2 fun v1 v2 v3 hu zq181=>?_
      subst zq181
      intro zq182
      subst zq182
      refine unpk_ok hu rfl ao.handled hr1 vr fun ws h2 vv kp=>?_
      refine vrs3_k vv fun w1 w2 w3 zq183=>?_
      subst zq183
      intro r1 r2 r3
      refine dups3_k hd fun d1 d2 d3=>?_
      refine swap3 (er1.ext (.keep kp)) (hr1.keep kp) d1 d2 d3 g1 g2 g3 r1 r2 r3 fun h3 tk3 as3 T3 x3 hr3 er3=>?_
      exact q _ _ _ _ _ (((x1.trans (.keep kp)).nil er.exo).trans x3) hr3 er3 .next
theorem turn_inv {f:Fl} {l2:Lo} {H2:Hp} {X:Lo→Hp→SR} {r:Fl×Lo×Hp} (e:(match (some (f,l2,H2):SR) with
      | some (.next,l,H)=>X l H | some (.cont,l,H)=>X l H | some (.brk,l,H)=>some (.next,l,H) | some (.ret v,l,H)=>some (.ret v,l,H) | none=>none)=some r) :
    ((f=.next∨f=.cont)∧X l2 H2=some r)∨(f=.brk∧r=(.next,l2,H2))∨∃ u,f=.ret u∧r=(.ret u,l2,H2):=by
  cases f with
  | next=>exact .inl ⟨.inl rfl,e⟩
  | cont=>exact .inl ⟨.inr rfl,e⟩
  | brk=>exact .inr (.inl ⟨rfl,(Option.some.inj e).symm⟩)
  | ret u=>exact .inr (.inr ⟨u,rfl,(Option.some.inj e).symm⟩)
theorem whlN_inv {t:Lo→Hp→Option (V×Hp)} {b:Lo→Hp→SR} {n:Nat} {r:Fl×Lo×Hp} (e:whlN t b (n+1) l H=some r):(∃ H1,t l H=some (.bool false,H1)∧r=(.next,l,H1)) ∨
    ∃ H1 f l2 H2,t l H=some (.bool true,H1)∧b l H1=some (f,l2,H2)∧(((f=.next∨f=.cont)∧whlN t b n l2 H2=some r)∨(f=.brk∧r=(.next,l2,H2))∨∃ u,f=.ret u∧r=(.ret u,l2,H2)):=by
  rw [whlN_2] at e
  refine bnd_some_k e fun v H1 e1 e=>?_
  cases v with
  | bool q =>
    cases q with
    | false=>exact .inl ⟨H1,e1,(Option.some.inj e).symm⟩
    | true =>
      dsimp only at e
      cases hb:b l H1 with
      | none=>rw [hb] at e; first | exact nn e | exact ff e | cases e
      | some z =>
        obtain⟨f,l2,H2⟩:=z
        rw [hb] at e
        exact .inr ⟨H1,f,l2,H2,e1,hb,turn_inv e⟩
  | _=>first | exact ff e | exact nn e | cases e
theorem forN_inv {t:CT} {b:Lo→Hp→SR} {n:Nat} {it:It} {r:Fl×Lo×Hp} (e:forN t b (n+1) it l H=some r):(nextI H it=some none∧r=(.next,l,H)) ∨
    ∃ v it' l1 f l2 H2,nextI H it=some (some (v,it'))∧setCT t v l=some l1∧b l1 H=some (f,l2,H2)∧(((f=.next∨f=.cont)∧forN t b n it' l2 H2=some r)∨(f=.brk∧r=(.next,l2,H2))∨∃ u,f=.ret u∧r=(.ret u,l2,H2)):=by
  rw [forN_2] at e
  cases hn:nextI H it with
  | none=>rw [hn] at e; first | exact nn e | exact ff e | cases e
  | some z=>cases z with
    | none=>rw [hn] at e; exact .inl ⟨rfl,(Option.some.inj e).symm⟩
    | some z =>
      obtain⟨v,it'⟩:=z
      rw [hn] at e
      dsimp only at e
      cases hs:setCT t v l with
      | none=>rw [hs] at e; first | exact nn e | exact ff e | cases e
      | some l1 =>
        rw [hs] at e
        dsimp only at e
        cases hb:b l1 H with
        | none=>rw [hb] at e; first | exact nn e | exact ff e | cases e
        | some z =>
          obtain⟨f,l2,H2⟩:=z
          rw [hb] at e
          exact .inr ⟨v,it',l1,f,l2,H2,rfl,hs,hb,turn_inv e⟩
theorem flow_goes {f:Fl} {g:Flow} (h:f=.next∨f=.cont) (x:FlR S as T f g):g=.next∨g=.cont:=by
  rcases h with rfl | rfl <;> cases x
  · exact .inl rfl
  · exact .inr rfl
inductive WJ (S:Sur) (call:CallT) (as:As) (T:TS) (s:Shared) (env:Env) (nm:Nms) (sl:Sl) (t:ME) (b:List MS) (fl:Fl) (l':Lo) (H':Hp) (n:Nat):Shared→Prop where
  | mk (h1:Heap) (tk1:_) (as1:As) (T1:TS) (l1:Lo) (H1:Hp) (x:Ext (EX env) as T s.heap as1 T1 h1) (r:HR S as1 T1 H1 h1) (er:ER S as1 T1 env nm sl l1 h1) (e:whlN (evE S.P call t) (fun l H=>exB S.P call b l H) n l1 H1=some (fl,l',H')):WJ S call as T s env nm sl t b fl l' H' n { s with heap:=h1,toks:=tk1 }
theorem while_loop {t:ME} {b:List MS} (ht:TrS S call d t) (hb:BkS S call d b) {x:Expr} {y:List Stmt} {R:Result→Shared→Prop} {fl:Fl} {l':Lo} {n:Nat} (ao:AOk A d) (c1:chE S.G t nm sl x=true) (c2:chB S.G b nm sl y=true) (er:ER S as T env nm sl l s.heap) (hr:HR S as T H s.heap)
    (e:whlN (evE S.P call t) (fun l H=>exB S.P call b l H) n l H=some (fl,l',H')) (q:RetS S as T s env nm sl fl l' H' (fun f s'=>R (.ok f) s')):codeAny (model S.prog S.w) A (.whileLoop x y [] env) R s:=by
  refine codeAny_whileLoop (WJ S call as T s env nm sl t b fl l' H') (fun n s1 hI=>?_) n (.mk s.heap s.toks as T l H (.refl ..) hr er e)
  obtain⟨h1,tk1,as1,T1,l1,H1,x1,hr1,er1,e⟩:=hI
  generalize notedBy (model S.prog S.w) A env (fun e s'=>R (.error e) s')=E1
  cases n with
  | zero=>rw [whlN_1] at e; first | exact nn e | exact ff e | cases e
  | succ n =>
    rcases whlN_inv e with⟨H2,e2,e⟩ | ⟨H2,f,l3,H3,e2,e3,e⟩
    · first | exact ff e | exact nn e | cases e
      refine ht e2 ao c1 er1 hr1 fun h2 tk2 as2 T2 x2 hr2=>?_
      rw [if_neg Bool.false_ne_true]
      exact wpAny_execs_nil (q _ _ _ _ _ (x1.trans (x2.nil er1.exo)) hr2 (er1.ext x2) .next)
    · refine ht e2 ao c1 er1 hr1 fun h2 tk2 as2 T2 x2 hr2=>?_
      rw [if_pos rfl]
      have x12:=x1.trans (x2.nil er1.exo)
      refine hb e3 ao c2 (er1.ext x2) hr2 fun h3 tk3 as3 T3 f x3 hr3 er3 fr=>?_
      rcases e with⟨hf,e⟩ | ⟨rfl,e⟩ | ⟨u,rfl,e⟩
      · rcases flow_goes hf fr with rfl | rfl <;> exact⟨n,Nat.lt_succ_self n,.mk h3 _ as3 T3 _ _ (x12.trans x3) hr3 er3 e⟩
      · cases e; cases fr
        exact q _ _ _ _ _ (x12.trans x3) hr3 er3 .next
      · first | exact ff e | exact nn e | cases e
        cases fr with
        | ret vr=>exact q _ _ _ _ _ (x12.trans x3) hr3 er3 (.ret vr)
theorem st_whl {t:ME} {b:List MS} (ht:TrS S call d t) (hb:BkS S call d b):StS S call d (.whl t b):=by
  intro l l' H H' fl e nm sl x s as T env A E Q ao c er hr q
  refine cs_whl_k c fun y z p c1 c2=>?_
  exact wpAny_While (while_loop ht hb ao c1 c2 er hr e q)
theorem own_go {it:It} {I:Addr} {v:Value} {t:Expr} {Q:Unit→Shared→Prop} (x:IR S as T s.heap it I) (q:Q () s):wpAny (model S.prog S.w) A (letOwnedTupleGo t (.ref I) v) Q E s:=by
  obtain⟨o,ho,n,vs,hc,hd,hn⟩:∃ o,s.heap.get? I=some o∧∃ n vs,o.cls=.type n∧o.data=.fields vs ∧
      (["enumerate","zip","dict_itemiterator","dict_reverseitemiterator","odict_iterator","itertools.zip_longest","itertools.pairwise"]:List String).contains n=false:=by
    cases x with
    | tup a _ _=>obtain⟨o,e,c,d⟩:=a; exact⟨o,e,_,_,c,d,by decide⟩
    | str a _=>obtain⟨o,e,c,d⟩:=a; exact⟨o,e,_,_,c,d,by decide⟩
    | lst a _=>obtain⟨o,e,c,d⟩:=a; exact⟨o,e,_,_,c,d,by decide⟩
    | rng a=>exact⟨_,a,_,_,rfl,rfl,by decide⟩
  have go:∀ a:Addr,wpAny (model S.prog S.w) A (do
      let o ← load I
      match o.cls,o.data with
      | .type n,.fields vs =>
        if((["enumerate","zip","dict_itemiterator","dict_reverseitemiterator","odict_iterator","itertools.zip_longest","itertools.pairwise"]:List String).contains n && vs[0]? == some (rawInt a))=true then do
          rule "for.unpacks-the-owned-tuple"
          updateField I 0 .none
        else pure ()
      | _,_=>pure ():Sem Unit) Q E s:=fun a=>by
    refine wpAny_bind (wpAny_load ho ?_)
    rw [hc,hd]
    show wpAny _ A (if(_ && _)=true then _ else _) Q E s
    rw [hn,Bool.false_and,if_neg (by decide)]
    exact wpAny_pure q
  cases t <;> first | exact wpAny_pure q | (cases v <;> first | exact wpAny_pure q | exact go _)
noncomputable def tgOf:CT→Tg
  | .one i=>.loc i
  | .many is=>.tup (is.map .loc)
theorem as_locs:∀ is:List Nat,AsLS S call d (is.map .loc)
  | []=>a_nil
  | _::r=>a_cons a_loc (as_locs r)
theorem as_ct (t:CT):AsS S call d (tgOf t):=by
  cases t with
  | one i=>exact a_loc
  | many is=>exact a_tup (as_locs is)
theorem setMany_asg {ev:ME→Lo→Hp→Option (V×Hp)}:∀ {is:List Nat} {vs:List V} {l l':Lo},setMany is vs l=some l'→asgTs ev (is.map .loc) vs l H=some (l',H)
  | [],[],_,_,e=>by rw [setMany_1] at e; cases e; rfl
  | [],_::_,_,_,e=>nn e
  | _::_,[],_,_,e=>nn e
  | i::is,v::vs,_,_,e=>by
    rw [setMany_2] at e
    rw [List.map_cons,asgTs_2,asgT_1]
    exact setMany_asg e
theorem setCT_asg {ev:ME→Lo→Hp→Option (V×Hp)} {t:CT} {v:V} {l l':Lo} (e:setCT t v l=some l'):asgT ev (tgOf t) v l H=some (l',H):=by
  cases t with
  | one=>cases e; rfl
  | many is=>cases v with
    | tup vs =>
      show asgT ev (.tup (is.map .loc)) (.tup vs) l H=some (l',H)
      rw [asgT_4]
      exact setMany_asg e
    | _=>exact nn e
theorem ct_go_ch {G:Str→Option GV}:∀ {is:List Nat} {es:List Expr},ctGo nm sl is es=true→chTs G (is.map .loc) nm sl es=true
  | [],es,c=>by cases go_nil c; rfl
  | i::is,es,c=>by
    refine go_cons_k c fun n p es c1 c2=>?_
    exact(Bool.and_eq_true_iff.mpr ⟨c1,ct_go_ch c2⟩:(isLoc nm sl i n && chTs G (is.map .loc) nm sl es)=true)
theorem ct_ch {G:Str→Option GV} {t:CT} {e:Expr} (c:ctIs nm sl t e=true):chT G (tgOf t) nm sl e=true:=by
  cases t with
  | one i=>exact c
  | many is =>
    refine ct_many_k c fun xs k p c=>?_
    exact ct_go_ch c
theorem set_folded {x:Expr} (h:notSet x=true) (env:Env) (v:Value):foldedSetIterable x env v=pure v:=by
  cases x <;> first | rfl | exact ff h | exact nn h | cases h
theorem owned_mono {as as1:As} {T T1:TS} (m:Mono as T as1 T1) {b:Addr} (h:b∈owned as):b∈owned as1:=by
  obtain⟨p,hp,hb⟩:=List.mem_flatMap.mp h
  obtain⟨n,hn⟩:=List.getElem?_of_mem hp
  exact List.mem_flatMap.mpr ⟨p,List.mem_of_getElem? (m.asx n p hn),hb⟩
theorem Ext.dead {as as1:As} {T T1:TS} {h h1:Heap} (x:Ext Nil as T h as1 T1 h1) (hr1:HR S as1 T1 H' h1) {I:Addr} (hI:h1.get? I=none):h.get? I=none:=by
  cases hz:h.get? I with
  | none=>rfl
  | some o =>
    by_cases hm:I∈owned as
    · obtain⟨q,hq⟩:=hr1.alive (owned_mono x.mono hm)
      rw [hI] at hq; first | exact nn hq | exact ff hq | cases hq
    · have:=x.kp I o hm (fun z=>z) hz
      rw [hI] at this; first | exact nn this | exact ff this | cases this
theorem Ext.off {X:Addr→Prop} {as as1:As} {T T1:TS} {h h1 h2:Heap} {I:Addr} (x:Ext X as T h as1 T1 h1) (k:∀ b o,b≠I→h1.get? b=some o→h2.get? b=some o) (hI:h.get? I=none) (hX:¬ X I):Ext X as T h as1 T1 h2 :=
  ⟨x.mono,fun b o n1 n2 e=>k b o (fun q=>by rw [q,hI] at e; cases e) (x.kp b o n1 n2 e),fun b hb e=>by
    obtain⟨o,ho⟩:=Option.isSome_iff_exists.mp (x.al b hb e)
    rw [k b o (fun q=>hX (q▸hb)) ho]; rfl,x.own⟩
theorem HR.iter {it:It} {I:Addr} (hr:HR S as T H h) (x:IR S as T h it I) (f:Free S as env I) (k:Heap.ExtBut I h h'):HR S as T H h' :=
  hr.but k f.own f.old (x.noT hr)
inductive FJ (S:Sur) (call:CallT) (s:Shared) (env:Env) (nm:Nms) (sl:Sl) (I:Addr) (as0:As) (T0:TS) (h0:Heap) (t:CT) (b:List MS) (fl:Fl) (l':Lo) (H':Hp) (n:Nat):Shared→Prop where
  | mk (hn:Heap) (tkn:_) (asn:As) (Tn:TS) (ln:Lo) (Hn:Hp) (itn:It) (x:Ext (EX env) as0 T0 h0 asn Tn hn) (r:HR S asn Tn Hn hn) (er:ER S asn Tn env nm sl ln hn) (ir:IR S asn Tn hn itn I) (f:Free S asn env I) (e:forN t (fun l H=>exB S.P call b l H) n itn ln Hn=some (fl,l',H')):FJ S call s env nm sl I as0 T0 h0 t b fl l' H' n { s with heap:=hn,toks:=tkn }
theorem for_loop {t:CT} {b:List MS} (hb:BkS S call d b) {y:Expr} {z:List Stmt} {R:Result→Shared→Prop} {I:Addr} {it:It} {fl:Fl} {l':Lo} {n:Nat} {as0:As} {T0:TS} {h0:Heap} (ao:AOk A d) (c1:ctIs nm sl t y=true) (c4:chB S.G b nm sl z=true) (er:ER S as T env nm sl l s.heap) (hr:HR S as T H s.heap)
    (ir:IR S as T s.heap it I) (f:Free S as env I) (x0:Ext (EX env) as0 T0 h0 as T s.heap) (hI0:h0.get? I=none) (e:forN t (fun l H=>exB S.P call b l H) n it l H=some (fl,l',H'))
    (q:∀ h' tk as' T' g,Ext (EX env) as0 T0 h0 as' T' h'→HR S as' T' H' h'→ER S as' T' env nm sl l' h'→FlR S as' T' fl g→R (.ok g) { s with heap:=h',toks:=tk }):codeAny (model S.prog S.w) A (.forLoop y (.ref I) z [] env) R s:=by
  refine codeAny_forLoop_any (FJ S call s env nm sl I as0 T0 h0 t b fl l' H') (fun n s1 hI=>?_) n (.mk s.heap s.toks as T l H it x0 hr er ir f e)
  obtain⟨hn,tkn,asn,Tn,ln,Hn,itn,xn,hrn,ern,irn,fn,e⟩:=hI
  generalize notedBy (model S.prog S.w) A env (fun e s'=>R (.error e) s')=E1
  cases n with
  | zero=>rw [forN_1] at e; first | exact nn e | exact ff e | cases e
  | succ n =>
    rcases forN_inv e with⟨hnx,e⟩ | ⟨u,it',l3,f,l5,H5,hnx,h3e,e5,e⟩
    · first | exact ff e | exact nn e | cases e
      refine next_ok hnx irn fn.own hrn ao.handled fun h3 k3=>?_
      exact wpAny_execs_nil (q _ _ _ _ _ (xn.off k3 hI0 fn.nex) (hrn.iter irn fn k3) (ern.but fn k3) .next)
    · refine next_ok hnx irn fn.own hrn ao.handled fun wu h3 tk3 k3 ir3 ru=>own_go ir3 ?_
      have x3:=xn.off k3 hI0 fn.nex
      refine as_ct (call:=call) (d:=d) t (setCT_asg h3e) ao (ct_ch c1) (ern.but fn k3) (hrn.iter irn fn k3) ru fun h4 tk4 as4 T4 x4 hr4 er4=>?_
      obtain⟨o3,ho3,_⟩:=ir3.alive
      have fn4:=fn.ext x4 ho3
      have ir4:=ir3.ext x4 fn.own fn.nex
      obtain⟨o4,ho4,_⟩:=ir4.alive
      refine hb e5 ao c4 er4 hr4 fun h5 tk5 as5 T5 f x5 hr5 er5 fr=>?_
      rcases e with⟨hf,e⟩ | ⟨rfl,e⟩ | ⟨uu,rfl,e⟩
      · rcases flow_goes hf fr with rfl | rfl <;> exact⟨n,Nat.lt_succ_self n,.mk h5 _ as5 T5 _ _ _ ((x3.trans x4).trans x5) hr5 er5 (ir4.ext x5 fn4.own fn4.nex) (fn4.ext x5 ho4) e⟩
      · cases e; cases fr
        exact q _ _ _ _ _ ((x3.trans x4).trans x5) hr5 er5 .next
      · first | exact ff e | exact nn e | cases e
        cases fr with
        | ret vr=>exact q _ _ _ _ _ ((x3.trans x4).trans x5) hr5 er5 (.ret vr)
theorem st_for {t:CT} {e0:ME} {b:List MS} (h0:EvS S call d e0) (hb:BkS S call d b):StS S call d (.for t e0 b):=by
  intro l l' H H' fl e nm sl x s as T env A E Q ao c er hr q
  refine ex_for_k e fun v H1 it e1 hit e=>?_
  refine cs_for_k c fun y z w p c1 c2 c3 c4=>?_
  refine wpAny_For (h0 e1 ao c3 er hr fun w h1 tk1 as1 T1 x1 hr1 vr=>?_) (set_folded c2 env)
  have er1:=er.ext x1
  refine iter_ok hit hr1 vr fun I h2 hI kp2 ir2=>?_
  exact for_loop hb ao c1 c4 (er1.ext (T':=T1) (as':=as1) (.keep kp2)) (hr1.keep kp2) ir2 (er1.fresh hr1 hI) ((x1.trans (.keep kp2)).nil er.exo) (x1.dead hr1 hI) e fun h' tk as' T' g a b c d=>q h' tk as' T' g a b c d
end
end Mine
namespace Mine
section
variable {S:Sur} {call:CallT} {d:Nat} {as as':As} {T T':TS} {H H':Hp} {h h':Heap} {s:Shared} {env:Env} {nm:Nms} {sl:Sl} {l:Lo} {A:Around} {E:Value→Shared→Prop}
theorem Ext.close {X:Addr→Prop} {as as1 as2:As} {T T1 T2:TS} {h h1 h2:Heap} (x:Ext Nil as T h as1 T1 h1) (y:Ext X as1 T1 h1 as2 T2 h2) (hX:∀ b,X b→h.get? b=none):Ext Nil as T h as2 T2 h2:=by
  refine⟨x.mono.trans y.mono,fun b o n1 n2 e=>?_,fun b hb=>hb.elim,fun b hb=>?_⟩
  · have e1:=x.kp b o n1 n2 e
    refine y.kp b o (fun hb=>?_) (fun q=>by rw [hX b q] at e; cases e) e1
    rcases x.own b hb with q | q
    · exact n1 q
    · rw [q] at e; first | exact nn e | exact ff e | cases e
  · rcases y.own b hb with q | q
    · exact x.own b q
    · cases e:h.get? b with
      | none=>exact .inr rfl
      | some o =>
        by_cases ho:b∈owned as
        · exact .inl ho
        · have:=x.kp b o ho (fun z=>z) e; rw [q] at this; first | exact nn this | exact ff this | cases this
theorem strIn_mem {x:Str}:∀ {l:List Str},strIn x l=true↔x∈l
  | []=>by simp [strIn_1,strIn_2]
  | y::r=>by simp only [strIn_1,strIn_2,Bool.or_eq_true,beq_iff_eq,List.mem_cons,strIn_mem]
theorem ndStr_nodup:∀ {l:List Str},ndStr l=true→l.Nodup
  | [],_=>.nil
  | x::r,h=>by
    simp only [ndStr_1,ndStr_2,Bool.and_eq_true,Bool.not_eq_true'] at h
    refine List.nodup_cons.mpr ⟨fun q=>?_,ndStr_nodup h.2⟩
    rw [strIn_mem.mpr q] at h; cases h.1
theorem nd_lookup:∀ {nm:Nms} {x:Str} {k:NameKind},(nm.map (·.1)).Nodup→(x,k)∈nm→nm.lookup x=some k
  | (y,j)::r,x,k,hn,hm=>by
    obtain⟨h1,h2⟩:=List.nodup_cons.mp hn
    rw [List.lookup_cons]
    rcases List.mem_cons.mp hm with e | e
    · cases e; simp
    · have:x≠y:=fun q=>h1 (q▸List.mem_map.mpr ⟨_,e,rfl⟩)
      rw [beq_eq_false_iff_ne.mpr this]
      exact nd_lookup h2 e
theorem slots_mem:∀ {nm:Nms} {i:Nat} {x:Str} {b:Bool},(slotsOf nm)[i]? = some (some (x,b))→(x,kOf b)∈nm
  | [],i,x,b,e=>by simp [slotsOf_1,slotsOf_2] at e
  | (y,k)::r,i,x,b,e=>by
    rw [slotsOf_2] at e
    cases k <;> try exact .tail _ (slots_mem e)
    · cases i with
      | zero=>simp at e; obtain⟨rfl,rfl⟩:=e; exact .head _
      | succ i=>exact .tail _ (slots_mem (by simpa using e))
    · cases i with
      | zero=>simp at e; obtain⟨rfl,rfl⟩:=e; exact .head _
      | succ i=>exact .tail _ (slots_mem (by simpa using e))
theorem slots_some:∀ {nm:Nms} {i:Nat} {z:Option (Str×Bool)},(slotsOf nm)[i]? = some z→∃ y,z=some y
  | [],i,z,e=>by simp [slotsOf_1,slotsOf_2] at e
  | (y,k)::r,i,z,e=>by
    rw [slotsOf_2] at e
    cases k <;> try exact slots_some e
    · cases i with
      | zero=>simp at e; exact⟨_,e.symm⟩
      | succ i=>exact slots_some (nm:=r) (i:=i) (by simpa using e)
    · cases i with
      | zero=>simp at e; exact⟨_,e.symm⟩
      | succ i=>exact slots_some (nm:=r) (i:=i) (by simpa using e)
theorem slots_nd:∀ {nm:Nms},(nm.map (·.1)).Nodup→∀ {i j:Nat} {x:Str} {b c:Bool},(slotsOf nm)[i]? = some (some (x,b))→(slotsOf nm)[j]? = some (some (x,c))→i=j
  | [],_,i,_,_,_,_,e,_=>by simp [slotsOf_1,slotsOf_2] at e
  | (y,k)::r,hn,i,j,x,b,c,e1,e2=>by
    obtain⟨h1,h2⟩:=List.nodup_cons.mp hn
    have no:∀ {i:Nat} {c:Bool},(slotsOf r)[i]? = some (some (y,c))→False:=fun e=>h1 (List.mem_map.mpr ⟨_,slots_mem e,rfl⟩)
    rw [slotsOf_2] at e1 e2
    cases k <;> try exact slots_nd h2 e1 e2
    · cases i <;> cases j
      · rfl
      · simp at e1 e2; obtain⟨rfl,rfl⟩:=e1; exact(no e2).elim
      · simp at e1 e2; obtain⟨rfl,rfl⟩:=e2; exact(no e1).elim
      · rename_i i j
        exact congrArg (· + 1) (slots_nd h2 (i:=i) (j:=j) (x:=x) (b:=b) (c:=c) (by simpa using e1) (by simpa using e2))
    · cases i <;> cases j
      · rfl
      · simp at e1 e2; obtain⟨rfl,rfl⟩:=e1; exact(no e2).elim
      · simp at e1 e2; obtain⟨rfl,rfl⟩:=e2; exact(no e1).elim
      · rename_i i j
        exact congrArg (· + 1) (slots_nd h2 (i:=i) (j:=j) (x:=x) (b:=b) (c:=c) (by simpa using e1) (by simpa using e2))
theorem bindL_other {kd:Str→Option NameKind} {x:Str}:∀ {ps:List Str} {ws:List Value} {m:Str→Option Value},x ∉ ps→bindL kd (ps.zip ws) m x=m x
  | [],_,_,_=>rfl
  | _::_,[],_,_=>rfl
  | p::ps,w::ws,m,h=>by
    rw [List.zip_cons_cons,bindL,bindL_other (fun q=>h (.tail _ q))]
    split
    · show(if x=p then some w else m x)=m x
      rw [if_neg (fun q:x=p=>h (by rw [q]; exact .head _))]
    · rfl
theorem bindL_get {kd:Str→Option NameKind} {x:Str} {w:Value}:∀ {ps:List Str} {ws:List Value} {m:Str→Option Value} {i:Nat},ps.Nodup→ps[i]? = some x→ws[i]? = some w→kd x=some .local→bindL kd (ps.zip ws) m x=some w
  | [],_,_,_,_,e,_,_=>by simp at e
  | _::_,[],_,_,_,_,e,_=>by simp at e
  | p::ps,u::ws,m,0,hn,e1,e2,hk=>by
    simp at e1 e2; subst e1; subst e2
    rw [List.zip_cons_cons,bindL,bindL_other (List.nodup_cons.mp hn).1,if_pos hk,if_pos rfl]
  | p::ps,u::ws,m,i+1,hn,e1,e2,hk=>by
    rw [List.zip_cons_cons,bindL]
    exact bindL_get (List.nodup_cons.mp hn).2 (by simpa using e1) (by simpa using e2) hk
theorem bindC_other {kd:Str→Option NameKind} {x:Str}:∀ {ps:List Str} {ws:List Value} {m:Str→Option Value},x ∉ ps→bindC kd (ps.zip ws) m x=m x
  | [],_,_,_=>rfl
  | _::_,[],_,_=>rfl
  | p::ps,w::ws,m,h=>by
    rw [List.zip_cons_cons,bindC,bindC_other (fun q=>h (.tail _ q))]
    split
    · rfl
    · show(if x=p then some w else m x)=m x
      rw [if_neg (fun q:x=p=>h (by rw [q]; exact .head _))]
theorem bindC_get {kd:Str→Option NameKind} {x:Str} {w:Value}:∀ {ps:List Str} {ws:List Value} {m:Str→Option Value} {i:Nat},ps.Nodup→ps[i]? = some x→ws[i]? = some w→kd x=some .cell→bindC kd (ps.zip ws) m x=some w
  | [],_,_,_,_,e,_,_=>by simp at e
  | _::_,[],_,_,_,_,e,_=>by simp at e
  | p::ps,u::ws,m,0,hn,e1,e2,hk=>by
    simp at e1 e2; subst e1; subst e2
    rw [List.zip_cons_cons,bindC,bindC_other (List.nodup_cons.mp hn).1,if_neg (by rw [hk]; intro q; cases q),if_pos rfl]
  | p::ps,u::ws,m,i+1,hn,e1,e2,hk=>by
    rw [List.zip_cons_cons,bindC]
    exact bindC_get (List.nodup_cons.mp hn).2 (by simpa using e1) (by simpa using e2) hk
theorem cells_some:∀ {nm:Nms} {n:Nat} {acc:List (Str×Addr)} {x:Str},((x,NameKind.cell)∈nm∨(acc.lookup x).isSome=true)→((cellsFrom n nm acc).lookup x).isSome=true
  | [],_,_,_,h=>by rcases h with h | h; simp at h; exact h
  | (y,k)::r,n,acc,x,h=>by
    unfold cellsFrom
    split
    · refine cells_some ?_
      rcases h with h | h
      · rcases List.mem_cons.mp h with e | e
        · cases e; right; simp [List.lookup_cons]
        · exact .inl e
      · right
        rw [List.lookup_cons]
        split
        · rfl
        · exact h
    · rename_i hk
      refine cells_some ?_
      rcases h with h | h
      · rcases List.mem_cons.mp h with e | e
        · cases e; exact absurd rfl hk
        · exact .inl e
      · exact .inr h
theorem zip_lookup:∀ {ps:List Str} {ws:List Value},ps.Nodup→ws.length=ps.length→ps.filterMap (fun n=>((ps.zip ws).lookup n).map (n,·))=ps.zip ws:=by
  have gen:∀(ps:List Str) (ws:List Value) (f:Str→Option Value),ps.Nodup→ws.length=ps.length→(∀(i:Nat) (x:Str) (w:Value),ps[i]? = some x→ws[i]? = some w→f x=some w)→ps.filterMap (fun n=>(f n).map (n,·))=ps.zip ws:=by
    intro ps
    induction ps with
    | nil=>intro ws f _ _ _; rfl
    | cons p ps ih =>
      intro ws f hn hl hf
      cases ws with
      | nil=>simp at hl
      | cons w ws =>
        rw [List.filterMap_cons,hf 0 p w rfl rfl,List.zip_cons_cons]
        show(p,w)::_=_
        rw [ih ws f (List.nodup_cons.mp hn).2 (by simpa using hl) fun i x u e1 e2=>hf (i+1) x u (by simpa using e1) (by simpa using e2)]
  intro ps ws hn hl
  refine gen ps ws _ hn hl ?_
  have look:∀(ps:List Str) (ws:List Value) (i:Nat) (x:Str) (w:Value),ps.Nodup→ps[i]? = some x→ws[i]? = some w→(ps.zip ws).lookup x=some w:=by
    intro ps
    induction ps with
    | nil=>intro ws i x w _ e; simp at e
    | cons p ps ih =>
      intro ws i x w hn e1 e2
      cases ws with
      | nil=>simp at e2
      | cons u ws =>
        rw [List.zip_cons_cons,List.lookup_cons]
        cases i with
        | zero=>simp at e1 e2; subst e1; subst e2; simp
        | succ i =>
          have hne:x≠p:=fun q=>(List.nodup_cons.mp hn).1 (q▸List.mem_of_getElem? (by simpa using e1))
          rw [beq_eq_false_iff_ne.mpr hne]
          exact ih ws i x w (List.nodup_cons.mp hn).2 (by simpa using e1) (by simpa using e2)
  exact fun i x w e1 e2=>look ps ws i x w hn e1 e2
theorem lookup_zip_some {ps:List Str} {ws:List Value} (hl:ws.length=ps.length):∀ n∈ps,((ps.zip ws).lookup n).isNone=false:=by
  induction ps generalizing ws with
  | nil=>intro n h; simp at h
  | cons p ps ih =>
    intro n h
    cases ws with
    | nil=>simp at hl
    | cons w ws =>
      rw [List.zip_cons_cons,List.lookup_cons]
      split
      · rfl
      · rename_i hb
        refine ih (by simpa using hl) n ?_
        rcases List.mem_cons.mp h with e | e
        · subst e; simp at hb
        · exact e
theorem binds_plain {fd:FuncData} {ws:List Value} (h1:fd.params.posonlyargs=[]) (h2:fd.params.vararg=none) (h3:fd.params.kwonlyargs=[]) (h4:fd.params.kwarg=none) (h5:fd.defaults=.none) (hn:(fd.params.args.map (·.arg)).Nodup)
    (hl:ws.length=fd.params.args.length):bindArgs fd ⟨ws,[]⟩=pure ((fd.params.args.map (·.arg)).zip ws):=by
  have hl':ws.length=(fd.params.args.map (·.arg)).length:=by rw [List.length_map]; exact hl
  have hm:((fd.params.args.map (·.arg)).take ((fd.params.args.map (·.arg)).length)).filter (fun n=>(((fd.params.args.map (·.arg)).zip ws).lookup n).isNone)=[]:=by
    rw [List.take_length,List.filter_eq_nil_iff]
    intro n hn'
    rw [lookup_zip_some hl' n hn']; simp
  have hs:seqItems? Value.none=pure none:=rfl
  have hg:decide (ws.length > (fd.params.args.map (·.arg)).length)=false:=decide_eq_false (by omega)
  unfold bindArgs
  simp only [h1,h2,h3,h4,h5,hs,List.map_nil,List.nil_append,List.append_nil,List.forIn_nil,pure_bind]
  simp only [Option.getD_none,Array.toList_empty,List.length_nil,List.drop_nil,List.zip_nil_right,List.forIn_nil,Nat.zero_sub,Nat.sub_zero,hg,Bool.false_and,Bool.false_eq_true,if_false,hm,List.isEmpty_nil,Bool.not_true,pure_bind]
  rw [zip_lookup hn hl']
end
end Mine
namespace Mine
section
variable {S:Sur} {as as':As} {T T':TS} {H H':Hp} {h h':Heap} {s:Shared} {env:Env} {nm:Nms} {sl:Sl} {l:Lo} {A:Around} {E:Value→Shared→Prop}
theorem args_are:∀ {ps:List Arg} {sl:Sl},argsAre ps sl=true→∀ {i:Nat} {a:Arg},ps[i]? = some a→∃ b,sl[i]? = some (some (a.arg,b))
  | [],_,_,i,a,e=>by simp at e
  | p::ps,[],h,_,_,_=>ff h
  | p::ps,none::sl,h,_,_,_=>ff h
  | p::ps,some (x,b)::sl,h,i,a,e=>by
    simp only [argsAre_1,argsAre_2,Bool.and_eq_true] at h
    cases i with
    | zero=>simp at e; subst e; exact⟨b,by rw [beq_iff_eq.mp h.1]; rfl⟩
    | succ i =>
      obtain⟨c,hc⟩:=args_are h.2 (i:=i) (a:=a) (by simpa using e)
      exact⟨c,by simpa using hc⟩
theorem args_nd:∀ {ps:List Arg} {sl:Sl},argsAre ps sl=true→(∀ {i j:Nat} {x:Str} {b c:Bool},sl[i]? = some (some (x,b))→sl[j]? = some (some (x,c))→i=j)→(ps.map (·.arg)).Nodup
  | [],_,_,_=>.nil
  | p::ps,[],h,_=>ff h
  | p::ps,none::sl,h,_=>ff h
  | p::ps,some (x,b)::sl,h,hn=>by
    have h':=h
    simp only [argsAre_1,argsAre_2,Bool.and_eq_true] at h'
    rw [List.map_cons]
    refine List.nodup_cons.mpr ⟨fun q=>?_,args_nd h'.2 fun {i j x b c} e1 e2=>?_⟩
    · obtain⟨a,ha,he⟩:=List.mem_map.mp q
      obtain⟨i,hi⟩:=List.getElem?_of_mem ha
      obtain⟨c,hc⟩:=args_are h'.2 hi
      have:=hn (i:=0) (j:=i+1) (x:=p.arg) (b:=b) (c:=c) (by rw [beq_iff_eq.mp h'.1]; rfl) (by rw [← he]; simpa using hc)
      exact lin [_] (.c 1 (.a (.v 0) (.n 1)) (.n 0) .z) rfl (Nat.le_of_eq (Eq.symm this))
    · have:=hn (i:=i+1) (j:=j+1) (x:=x) (b:=b) (c:=c) (by simpa using e1) (by simpa using e2)
      exact Nat.le_antisymm (Nat.not_lt.mp (lin [_,_] (.c 1 (.a (.v 0) (.n 1)) (.a (.v 1) (.n 1)) (.c 1 (.a (.v 1) (.n 1)) (.v 0) .z)) rfl (Nat.le_of_eq this))) (Nat.not_lt.mp (lin [_,_] (.c 1 (.a (.v 0) (.n 1)) (.a (.v 1) (.n 1)) (.c 1 (.a (.v 1) (.n 1)) (.v 0) .z)) rfl (Nat.le_of_eq (Eq.symm this))))
theorem bad_body:∀ {b:List MS},badBody b=true→b=[.bad]
  | [.bad],_=>rfl
theorem frame_ok {fd:FuncData} {fi:FI} {a:Addr} {vs:List V} {ws:List Value} {s1:Shared} (hr:HR S as T H s.heap) (vv:VRs S.fa as T vs ws) (hlen:vs.length=fi.np) (h1:fd.globals=mainGlobals) (h2:fd.builtins=builtinsNs)
    (h3:kindIs0 fd.scope=true) (h4:fd.params.args.length=fi.np) (h5:(slotsOf fd.scope.names).length=fi.ns) (h6:argsAre fd.params.args (slotsOf fd.scope.names)=true) (h7:(fd.scope.names.map (·.1)).Nodup) (hpn:(fd.params.args.map (·.arg)).Nodup) (hle:fi.np≤fi.ns)
    (x:InCallC s (callEnvC fd s.heap.objs.size a).locals (bindL (callEnvC fd s.heap.objs.size a).kindOf ((fd.params.args.map (·.arg)).zip ws) fun _=>none) (callEnvC fd s.heap.objs.size a).cells
        (bindC (callEnvC fd s.heap.objs.size a).kindOf ((fd.params.args.map (·.arg)).zip ws) fun _=>none) s1) :
    ER S as T (callEnvC fd s.heap.objs.size a) fd.scope.names (slotsOf fd.scope.names) (vs.map some++List.replicate (fi.ns - fi.np) none) s1.heap:=by
  have fresh:∀ b,s.heap.objs.size≤b→s.heap.get? b=none:=fun b hb=>by
    cases e:s.heap.get? b with
    | none=>rfl
    | some o=>exact absurd (Heap.lt_size e) (Nat.not_lt.mpr hb)
  have fr:∀ b,s.heap.get? b=none→b ∉ owned as∧S.h0.get? b=none:=fun b hb=>by
    refine⟨fun q=>?_,?_⟩
    · obtain⟨o,ho⟩:=hr.alive q; rw [hb] at ho; first | exact nn ho | exact ff ho | cases ho
    · cases e:S.h0.get? b with
      | none=>rfl
      | some o=>have:=hr.base b o e; rw [hb] at this; first | exact nn this | exact ff this | cases this
  simp only [kindIs0,Bool.and_eq_true] at h3
  obtain⟨⟨⟨k1,k2⟩,k3⟩,k4⟩:=h3
  have kf:fd.scope.kind=.function:=by
    split at k2
    · rename_i e; exact e
    · first | exact ff k2 | exact nn k2 | cases k2
  have at_:∀ {i:Nat} {v:V} {z:Str} {b:Bool},(vs.map some++List.replicate (fi.ns - fi.np) none)[i]? = some (some v)→(slotsOf fd.scope.names)[i]? = some (some (z,b))→∃ w,vs[i]? = some v∧ws[i]? = some w∧VR S.fa as T v w∧(fd.params.args.map (·.arg))[i]? = some z:=by
    intro i v z b e1 e2
    by_cases hi:i<vs.length
    · rw [List.getElem?_append_left (by rw [List.length_map]; exact hi),List.getElem?_map] at e1
      obtain⟨v',h',h''⟩:=Option.map_eq_some_iff.mp e1
      cases h''
      obtain⟨w,hw,vr⟩:=vv.get _ h'
      obtain⟨p,hp⟩:∃ p,fd.params.args[i]? = some p:=⟨_,List.getElem?_eq_getElem (by exact Nat.not_le.mp (lin [_,_,_,_] (.c 1 (.v 0) (.v 1) (.c 1 (.v 1) (.v 2) (.c 1 (.a (.v 3) (.n 1)) (.v 0) (.c 1 (.v 2) (.v 3) .z)))) rfl (Nat.le_of_eq hlen) (Nat.le_of_eq (Eq.symm h4)) hi))⟩
      obtain⟨c,hc⟩:=args_are h6 hp
      rw [e2] at hc; first | exact nn hc | exact ff hc | cases hc
      exact⟨w,h',hw,vr,by rw [List.getElem?_map,hp]; rfl⟩
    · rw [List.getElem?_append_right (by rw [List.length_map]; exact Nat.not_lt.mp (lin [_,_] (.c 1 (.v 0) (.v 1) (.c 1 (.a (.v 1) (.n 1)) (.v 0) .z)) rfl (Nat.not_lt.mp hi))),List.getElem?_replicate] at e1
      split at e1 <;> cases e1
  have kd:∀ {i:Nat} {z:Str} {b:Bool},(slotsOf fd.scope.names)[i]? = some (some (z,b))→(callEnvC fd s.heap.objs.size a).kindOf z=some (kOf b):=fun e=>nd_lookup h7 (slots_mem e)
  refine⟨kf,h1,h2,rfl,k1,?_,fun i j y b c e1 e2=>slots_nd h7 e1 e2,⟨_,x.toInCall.ns,fun i v y e1 e2=>?_⟩,fun i y e1=>?_,fun y z c e1 e2=>?_,fun y c e1=>⟨_,x.cell y c e1⟩,fr _ (fresh _ x.toInCall.fresh),fun y c e1=>?_⟩
  · rw [List.length_append,List.length_map,List.length_replicate,h5]; omega
  · obtain⟨w,g1,g2,g3,g4⟩:=at_ e1 e2
    exact⟨w,bindL_get hpn g4 g2 (kd e2),g3⟩
  · obtain⟨c,hc⟩:=Option.isSome_iff_exists.mp (cells_some (n:=s.heap.objs.size+1) (acc:=[]) (x:=y) (nm:=fd.scope.names) (.inl (slots_mem e1)))
    refine⟨c,_,hc,x.cell y c hc,fun v hv=>?_⟩
    obtain⟨w,g1,g2,g3,g4⟩:=at_ hv e1
    exact⟨w,bindC_get hpn g4 g2 (kd e1),g3⟩
  · exact name_of_addr x.apart (mem_of_lookup e1) (mem_of_lookup e2)
  · have:=x.above y c (mem_of_lookup e1)
    exact fr _ (fresh _ (Nat.le_trans x.toInCall.fresh (Nat.le_of_lt this)))
theorem deeper_ok {d:Nat} (ao:AOkC A (d+1)) (env:Env):AOk (A.deeper env) d:=by
  refine⟨ao.handled,?_,?_⟩
  · have:=ao.depth
    show A.depth+1+4 * d+8≤1000
    exact Nat.not_lt.mp (lin [_,_] (.c 1 (.a (.a (.v 0) (.m 4 (.a (.v 1) (.n 1)))) (.n 6)) (.n 1000) (.c 1 (.a (.n 1000) (.n 1)) (.a (.a (.a (.v 0) (.n 1)) (.m 4 (.v 1))) (.n 8)) .z)) rfl this)
  · have:=ao.units
    show A.units+3+32 * d+200≤9900
    exact Nat.not_lt.mp (lin [_,_] (.c 1 (.a (.a (.v 0) (.m 32 (.a (.v 1) (.n 1)))) (.n 180)) (.n 9900) (.c 1 (.a (.n 9900) (.n 1)) (.a (.a (.a (.v 0) (.n 3)) (.m 32 (.v 1))) (.n 200)) .z)) rfl this)
theorem call_ok (C:Cx S) (hB:∀ d,CallOk S (callF S.P d) d→∀ b,BkS S (callF S.P d) d b):∀ d,CallOk S (callF S.P d) d:=by
  intro d
  induction d with
  | zero=>intro k vs H H' v e; rw [callF_1] at e; first | exact nn e | exact ff e | cases e
  | succ d ih =>
    intro k vs H H' v e A s as T R a ws ao ha hr vv q
    rw [callF_2] at e
    split at e
    · rename_i fi hfi
      split at e
      · rename_i hlen
        obtain⟨a',ha',ck⟩:=C.fns k fi hfi
        rw [ha] at ha'; cases ha'
        obtain⟨fl,l2,e1,hfl⟩:∃ fl l2,exB S.P (callF S.P d) fi.body (vs.map some++List.replicate (fi.ns - fi.np) none) H=some (fl,l2,H')∧((fl=.next∧v=.none)∨fl=.ret v):=by
          split at e
          · rename_i v' l2 H2 e2; cases e; exact⟨_,_,e2,.inr rfl⟩
          · rename_i l2 H2 e2; cases e; exact⟨_,_,e2,.inl ⟨rfl,rfl⟩⟩
          · first | exact ff e | exact nn e | cases e
        unfold chK at ck
        simp only [Bool.or_eq_true] at ck
        rcases ck with ck | ck
        · rw [bad_body ck] at e1
          exact nn e1
        · split at ck
          · rename_i c0 d0 fd sl0 hk
            unfold chFd at ck
            simp only [Bool.and_eq_true,decide_eq_true_eq,beq_iff_eq,List.isEmpty_iff,Option.isNone_iff_eq_none] at ck
            obtain⟨⟨⟨⟨⟨⟨⟨⟨⟨⟨⟨⟨⟨⟨c1,c2⟩,c3⟩,c4⟩,c5⟩,c6⟩,c7⟩,c8⟩,c9⟩,c10⟩,c11⟩,c12⟩,c13⟩,c14⟩,c15⟩:=ck
            split at c14
            · rename_i body hbody
              have c5':fd.defaults=.none:=by split at c5; rename_i e; exact e; cases c5
              have X:=C.X.keeps hr.base
              have hn7:=ndStr_nodup c13
              have hle:fi.np≤fi.ns:=by
                rw [← c10,← c11]
                by_cases hz:fd.params.args.length=0
                · exact Nat.not_lt.mp (lin [_,_] (.c 1 (.v 0) (.n 0) (.c 1 (.a (.v 1) (.n 1)) (.v 0) .z)) rfl (Nat.le_of_eq hz))
                · obtain⟨b,hb⟩:=args_are c12 (i:=fd.params.args.length - 1) (a:=fd.params.args[fd.params.args.length - 1]) (List.getElem?_eq_getElem (by omega))
                  have:=(List.getElem?_eq_some_iff.mp hb).1
                  omega
              have hpn:(fd.params.args.map (·.arg)).Nodup :=
                 args_nd c12 fun e1 e2=>slots_nd hn7 e1 e2
              have hl:ws.length=fd.params.args.length:=by rw [vv.length,hlen,c10]
              have hbind:=binds_plain (ws:=ws) c1 c2 c3 c4 c5' hpn hl
              have kk:=c9
              simp only [kindIs0,Bool.and_eq_true,Bool.not_eq_true'] at kk
              have kf:fd.scope.kind=.function:=by
                have:=kk.1.1.2
                split at this
                · rename_i e; exact e
                · first | exact ff this | exact nn this | cases this
              refine codeAny_call_cells (by have:=ao.depth; show A.depth<1000; exact Nat.not_le.mp (lin [_,_] (.c 1 (.a (.a (.v 0) (.m 4 (.a (.v 1) (.n 1)))) (.n 6)) (.n 1000) (.c 1 (.n 1000) (.v 0) .z)) rfl this)) (X _ _ hk) rfl (C.lim.keeps hr.base) (codeRec_of X c15) hbody hbind c6 (fun z hz=>?_) (fun s1 x=>?_) kk.2 kk.1.2 kf
              · obtain⟨z1,z2⟩:=z
                have hz1:=(List.of_mem_zip hz).1
                obtain⟨p,hp,rfl⟩:=List.mem_map.mp hz1
                obtain⟨i,hi⟩:=List.getElem?_of_mem hp
                obtain⟨b,hb⟩:=args_are c12 hi
                have hm:=slots_mem hb
                cases b with
                | false=>exact .inl (nd_lookup hn7 hm)
                | true=>exact .inr ⟨nd_lookup hn7 hm,cells_some (.inl hm)⟩
              · have er:=frame_ok hr vv hlen c7 c8 c9 c10 c11 c12 hn7 hpn hle x
                obtain⟨h1,tk1,hs1⟩:=x.toInCall.same
                have kp:=x.toInCall.keep
                subst hs1
                have x0:Ext Nil as T s.heap as T h1:=.keep kp
                refine hB d ih fi.body e1 (deeper_ok ao _) c14 er (hr.keep kp) fun h2 tk2 as2 T2 f x2 hr2 er2 fr=>?_
                have x02:Ext Nil as T s.heap as2 T2 h2:=x0.close x2 fun b hb=>by
                  have low:∀ c,s.heap.objs.size≤c→s.heap.get? c=none:=fun c hc=>by
                    cases e:s.heap.get? c with
                    | none=>rfl
                    | some o=>exact absurd (Heap.lt_size e) (Nat.not_lt.mpr hc)
                  rcases hb with rfl | ⟨y,hy⟩
                  · exact low _ x.toInCall.fresh
                  · exact low _ (Nat.le_trans x.toInCall.fresh (Nat.le_of_lt (x.above y b (mem_of_lookup hy))))
                rcases hfl with⟨rfl,rfl⟩ | rfl
                · first | exact ff fr | exact nn fr | cases fr
                  exact q _ _ _ _ _ x02 hr2 .none
                · cases fr with
                  | ret vr=>exact q _ _ _ _ _ x02 hr2 vr
            · first | exact ff c14 | exact nn c14 | cases c14
          · first | exact ff ck | exact nn ck | cases ck
      · first | exact ff e | exact nn e | cases e
    · first | exact ff e | exact nn e | cases e
end
end Mine
namespace Mine
noncomputable def clOf (cells:List (Str×Addr)):Nms→List (Str×Addr)→List (Str×Addr)
  | [],acc=>acc
  | (x,k)::r,acc=>match k with
    | .free=>(match cells.lookup x with | some c=>clOf cells r ((x,c)::acc) | none=>clOf cells r acc)
    | _=>clOf cells r acc
theorem clOf_1  {cells acc}:clOf cells ([]) acc=(acc):=rfl
theorem clOf_2  {cells x k r acc}:clOf cells ((x,k)::r) acc=(match k with
    | .free=>(match cells.lookup x with | some c=>clOf cells r ((x,c)::acc) | none=>clOf cells r acc)
    | _=>clOf cells r acc):=rfl
section
variable {S:Sur} {call:CallT} {d:Nat} {as as':As} {T T':TS} {H H':Hp} {h h':Heap} {s:Shared} {env:Env} {nm:Nms} {sl:Sl} {l:Lo} {A:Around} {E:Value→Shared→Prop}
theorem closure_fold {env:Env}:∀ {names:Nms} {acc:List (Str×Addr)},(∀ x,(x,NameKind.free)∈names→(env.cells.lookup x).isSome=true) →
    (forIn names acc (fun(p:Str×NameKind) (cs:List (Str×Addr))=>(if p.2 == .free then do let a ← cellOf env p.1; pure (ForInStep.yield ((p.1,a)::cs)) else pure (ForInStep.yield cs):Sem (ForInStep (List (Str×Addr))))))=pure (clOf env.cells names acc)
  | [],acc,_=>rfl
  | (x,k)::r,acc,h=>by
    rw [List.forIn_cons]
    have hr:∀ y,(y,NameKind.free)∈r→(env.cells.lookup y).isSome=true:=fun y hy=>h y (.tail _ hy)
    cases k with
    | free =>
      obtain⟨c,hc⟩:=Option.isSome_iff_exists.mp (h x (.head _))
      have:cellOf env x=pure c:=by unfold cellOf; rw [hc]
      simp only [beq_self_eq_true,if_true,this,pure_bind,clOf_1,clOf_2,hc]
      exact closure_fold hr
    | _ =>
      simp only [clOf_1,clOf_2]
      exact closure_fold hr
theorem closure_ok {sc:Scope} {env:Env} (h:∀ x,(x,NameKind.free)∈sc.names→(env.cells.lookup x).isSome=true):closureFor sc env=pure (clOf env.cells sc.names []):=by
  have:=closure_fold (acc:=[]) h
  unfold closureFor
  simp only [bind_pure]
  rw [← this]
theorem clOf_old {cells:List (Str×Addr)}:∀ {names:Nms} {acc:List (Str×Addr)} {x:Str} {c:Addr},(clOf cells names acc).lookup x=some c→cells.lookup x=some c∨acc.lookup x=some c
  | [],acc,x,c,e=>.inr e
  | (y,k)::r,acc,x,c,e=>by
    rw [clOf_2] at e
    split at e
    · split at e
      · rename_i c' hc
        rcases clOf_old e with q | q
        · exact .inl q
        · rw [List.lookup_cons] at q
          split at q
          · rename_i hb; cases q; exact .inl (beq_iff_eq.mp hb▸hc)
          · exact .inr q
      · exact clOf_old e
    · exact clOf_old e
theorem clOf_acc {cells:List (Str×Addr)}:∀ {names:Nms} {acc:List (Str×Addr)} {x:Str} {c:Addr},cells.lookup x=some c→acc.lookup x=some c→(clOf cells names acc).lookup x=some c
  | [],acc,x,c,_,e=>e
  | (y,k)::r,acc,x,c,h,e=>by
    rw [clOf_2]
    split
    · split
      · rename_i c' hc
        refine clOf_acc h ?_
        rw [List.lookup_cons]
        split
        · rename_i hb; rw [← beq_iff_eq.mp hb,h] at hc; rw [hc]
        · exact e
      · exact clOf_acc h e
    · exact clOf_acc h e
theorem clOf_free {cells:List (Str×Addr)}:∀ {names:Nms} {acc:List (Str×Addr)} {x:Str} {c:Addr},(x,NameKind.free)∈names→cells.lookup x=some c→(clOf cells names acc).lookup x=some c
  | [],acc,x,c,h,_=>by simp at h
  | (y,k)::r,acc,x,c,h,e=>by
    rw [clOf_2]
    rcases List.mem_cons.mp h with q | q
    · first | exact ff q | exact nn q | cases q
      simp only [e]
      exact clOf_acc e (by simp)
    · split
      · split
        · exact clOf_free q e
        · exact clOf_free q e
      · exact clOf_free q e
theorem loop_tests {elt target iter:Expr} {ifs:List Expr} {scope:Scope} {pos:Pos} {it acc:Value} {env:Env} {R:Result→Shared→Prop} (I:Nat→Shared→Prop)
    (turn:∀ n s,I n s→wpAny (model S.prog S.w) A (pyNext it) (fun r s₁=>match r with
      | none=>R (.ok .next) s₁
      | some v=>wpAny (model S.prog S.w) A (letOwnedTupleGo target it v) (fun _ s₁'=>wpAny (model S.prog S.w) A (assign target env v) (fun _ s₂ =>
          wpAny (model S.prog S.w) A (forIn ifs true fun c r=>if r=true then do let ok ← PySem.isTrue c env (eval c env); pure (ForInStep.yield ok) else pure (ForInStep.yield r)) (fun ok s₃ =>
            if ok=true then wpAny (model S.prog S.w) A (eval elt env) (fun x s₄ =>
              wpAny (model S.prog S.w) A (PySem.call (.builtin "list.append") [acc,x]) (fun _ s₅=>∃ m,m<n∧I m s₅) (notedBy (model S.prog S.w) A env fun e s'=>R (.error e) s') s₄) (notedBy (model S.prog S.w) A env fun e s'=>R (.error e) s') s₃
            else ∃ m,m<n∧I m s₃) (notedBy (model S.prog S.w) A env fun e s'=>R (.error e) s') s₂) (notedBy (model S.prog S.w) A env fun e s'=>R (.error e) s') s₁') (notedBy (model S.prog S.w) A env fun e s'=>R (.error e) s') s₁) (notedBy (model S.prog S.w) A env fun e s'=>R (.error e) s') s)
    (n:Nat) (h:I n s):codeAny (model S.prog S.w) A (.compLoop (.ListComp elt [⟨target,iter,ifs,0⟩] scope pos) 0 it acc env) R s:=by
  refine codeAny_loop rfl I (fun n s hI=>?_) n h
  show wpAny _ A ((compTurn (.ListComp elt [⟨target,iter,ifs,0⟩] scope pos) 0 it acc env).onRaise (fun x=>do noteFrame x env; theTreesLotGoes x)) _ _ s
  refine wpAny_noted ?_
  rw [compTurn_list]
  refine wpAny_bind (wpAny_standAt (wpAny_bind (wpAny_mono (turn n s hI) (fun r s₁ h₁=>?_) fun _ _ h'=>h')))
  cases r with
  | none=>exact wpAny_pure h₁
  | some v =>
    refine wpAny_bind (wpAny_mono h₁ (fun _ s₁' h₁'=>?_) fun _ _ h'=>h')
    refine wpAny_bind (wpAny_mono h₁' (fun _ s₂ h₂=>wpAny_bind (wpAny_mono h₂ (fun ok s₃ h₃=>?_) fun _ _ h'=>h')) fun _ _ h'=>h')
    cases ok with
    | false=>exact wpAny_pure ⟨rfl,h₃⟩
    | true =>
      exact wpAny_bind (wpAny_bind (wpAny_mono h₃ (fun x s₄ h₄=>wpAny_bind (wpAny_mono h₄ (fun _ s₅ h₅=>wpAny_pure (wpAny_pure ⟨rfl,h₅⟩)) fun _ _ h'=>h')) fun _ _ h'=>h'))
theorem tests_false {env:Env} {Q:Bool→Shared→Prop}:∀ {xs:List Expr},Q false s →
    wpAny (model S.prog S.w) A (forIn xs false fun c r=>if r=true then do let ok ← PySem.isTrue c env (eval c env); pure (ForInStep.yield ok) else pure (ForInStep.yield r)) Q E s
  | [],q=>wpAny_pure q
  | x::r,q=>by
    rw [List.forIn_cons]
    refine wpAny_bind ?_
    rw [if_neg (by decide)]
    exact wpAny_pure (tests_false q)
theorem tests_ok:∀ {cs:List ME},AllEv S call d cs→∀ {l:Lo} {H H':Hp} {b:Bool},evC S.P call cs l H=some (b,H') →
    ∀ ⦃nm:Nms⦄ ⦃sl:Sl⦄ ⦃xs:List Expr⦄ ⦃s:Shared⦄ ⦃as:As⦄ ⦃T:TS⦄ ⦃env:Env⦄ ⦃A:Around⦄ ⦃E:Value→Shared→Prop⦄ ⦃Q:Bool→Shared→Prop⦄,AOk A d→chL S.G cs nm sl xs=true→ER S as T env nm sl l s.heap→HR S as T H s.heap →
    RetB S as T s H' b Q→wpAny (model S.prog S.w) A (forIn xs true fun c r=>if r=true then do let ok ← PySem.isTrue c env (eval c env); pure (ForInStep.yield ok) else pure (ForInStep.yield r)) Q E s
  | [],_,_,_,_,_,e=>by
    intro nm sl xs s as T env A E Q ao c er hr q
    rw [evC_1] at e; first | exact nn e | exact ff e | cases e
    cases xs with
    | nil=>exact wpAny_pure (q s.heap s.toks as T (.refl ..) hr)
    | cons=>simp [chL_1,chL_2] at c
  | e0::r,hA,_,_,_,_,e=>by
    intro nm sl xs s as T env A E Q ao c er hr q
    obtain⟨_,he,hr'⟩:=hA
    rw [evC_2] at e
    refine bnd_some_k e fun a H1 e1 e=>?_
    cases xs with
    | nil=>simp [chL_1,chL_2] at c
    | cons x ys =>
      simp only [chL_1,chL_2,Bool.and_eq_true] at c
      rw [List.forIn_cons]
      refine wpAny_bind ?_
      rw [if_pos rfl]
      split at e
      · refine wpAny_bind (he e1 ao c.1.2 er hr fun h1 tk1 as1 T1 x1 hr1=>wpAny_pure ?_)
        exact tests_ok hr' e ao c.2 (er.ext x1) hr1 (q.from x1)
      · first | exact ff e | exact nn e | cases e
        refine wpAny_bind (he e1 ao c.1.2 er hr fun h1 tk1 as1 T1 x1 hr1=>wpAny_pure ?_)
        exact tests_false (q _ _ _ _ x1 hr1)
      · first | exact ff e | exact nn e | cases e
theorem HR.adopt {S:Sur} {as:As} {T:TS} {H:Hp} {h:Heap} {D:Addr} {vs:List V} {ws:List Value} {k:Nat} (x:HR S as T H h) (e:h.get? D=some (lst ws k)) (ho:D ∉ owned as) (h0:S.h0.get? D=none) (hg:sysModules<D) (hv:VRs S.fa as T vs ws) (hl:vs.length≤lim) :
    HR S (as++[(D,none)]) T (H++[.list vs]) h∧VR S.fa (as++[(D,none)]) T (.loc H.length) (.ref D):=by
  have m:Mono as T (as++[(D,none)]) T:=⟨fun n q e=>getElem?_append_some e,fun _ _ e=>e⟩
  refine⟨⟨x.base,by simp [x.len],fun n q r e1 e2=>?_,?_,fun a ha=>?_,x.im,x.t0,x.ro,x.two,fun a ha=>?_⟩,?_⟩
  · by_cases hn:n<H.length
    · rw [List.getElem?_append_left hn] at e1
      rw [List.getElem?_append_left (by rw [x.len]; exact hn)] at e2
      exact(x.obj n q r e1 e2).keep m (fun _ z=>z) (fun _ _ _ z=>z)
    · have:n=H.length:=by
        have:=(List.getElem?_eq_some_iff.mp e1).1; simp at this; exact Nat.le_antisymm (Nat.not_lt.mp (lin [_,_] (.c 1 (.a (.v 0) (.n 1)) (.a (.v 1) (.n 1)) (.c 1 (.a (.v 1) (.n 1)) (.v 0) .z)) rfl this)) (Nat.not_lt.mp (lin [_,_] (.c 1 (.v 0) (.v 1) (.c 1 (.a (.v 1) (.n 1)) (.v 0) .z)) rfl (Nat.not_lt.mp hn)))
      subst this
      rw [List.getElem?_append_right (Nat.le_refl _),Nat.sub_self] at e1
      rw [List.getElem?_append_right (by rw [x.len]; exact Nat.le_refl _),x.len,Nat.sub_self] at e2
      cases e1; cases e2
      exact .list e hl (hv.mono m)
  · rw [owned_append]
    refine List.nodup_append.mpr ⟨x.nd,by simp [owned],fun a ha b hb q=>?_⟩
    simp [owned] at hb
    rw [q,hb] at ha
    exact ho ha
  · rw [owned_append] at ha
    rcases List.mem_append.mp ha with q | q
    · exact x.new a q
    · simp [owned] at q; rw [q]; exact h0
  · rw [owned_append] at ha
    rcases List.mem_append.mp ha with q | q
    · exact x.big a q
    · simp [owned] at q; rw [q]; exact hg
  · exact .loc (p:=(D,none)) (by rw [List.getElem?_append_right (by rw [x.len]; exact Nat.le_refl _),x.len,Nat.sub_self]; rfl)
theorem IR.self {it:It} {I:Addr} {Q:Value→Shared→Prop} (x:IR S as T s.heap it I) (q:Q (.ref I) s):wpAny (model S.prog S.w) A (pyIter (.ref I)) Q E s:=by
  cases x with
  | tup a _ _=>exact wpAny_pyIter_tupleiter a q
  | str a _=>exact wpAny_pyIter_striter_ascii a q
  | lst a _=>exact wpAny_pyIter_listiter a q
  | rng a=>exact wpAny_pyIter_rangeiter a q
theorem compN_len {cond:Lo→Hp→Option (Bool×Hp)} {elt:Lo→Hp→Option (V×Hp)} {t:CT} {l:Lo}:∀ {n:Nat} {it:It} {acc vs:List V} {H H':Hp},compN cond elt t l n it acc H=some (vs,H')→acc.length≤vs.length
  | 0,_,_,_,_,_,e=>by rw [compN_1] at e; first | exact nn e | exact ff e | cases e
  | n+1,it,acc,vs,H,H',e=>by
    rw [compN_2] at e
    split at e
    · first | exact ff e | exact nn e | cases e
    · cases e; simp
    · split at e
      · first | exact ff e | exact nn e | cases e
      · refine bnd_some_k e fun b H1 e1 e=>?_
        split at e
        · refine bnd_some_k e fun r H2 e2 e=>?_
          have:=compN_len e
          rw [List.length_cons] at this
          exact Nat.not_lt.mp (lin [_,_] (.c 1 (.a (.v 0) (.n 1)) (.v 1) (.c 1 (.a (.v 1) (.n 1)) (.v 0) .z)) rfl this)
        · exact compN_len e
theorem flag_spec {i:Nat} (c:flagF sl i=true):∃ x,sl[i]? = some (some (x,false)):=by
  unfold flagF at c
  cases h:sl[i]? with
  | none=>rw [h] at c; exact ff c
  | some z=>cases z with
    | none=>rw [h] at c; exact ff c
    | some z =>
      obtain⟨x,b⟩:=z
      cases b with
      | false=>exact⟨x,rfl⟩
      | true=>rw [h] at c; exact ff c
theorem set_flag {i:Nat} {v:V} {n:Str} {w:Value} {Q:Unit→Shared→Prop} (f:flagF sl i=true) (x:ER S as T env nm sl l s.heap) (hr:HR S as T H s.heap) (c:isLoc nm sl i n=true) (vr:VR S.fa as T v w)
    (q:∀ h' tk,Ext (fun b=>b=env.locals) as T s.heap as T h'→HR S as T H h'→ER S as T env nm sl (l.set i (some v)) h'→Q () { s with heap:=h',toks:=tk }):wpAny (model S.prog S.w) A (storeName env n w) Q E s:=by
  refine store_gen (X:=fun b=>b=env.locals) rfl (fun c e _=>?_) x hr c vr q
  obtain⟨y,hy⟩:=flag_spec f
  rw [hy] at e; first | exact nn e | exact ff e | cases e
theorem sets_flag:∀ {is:List Nat} {vs:List V} {l l':Lo},setMany is vs l=some l'→∀ ⦃xs:List Expr⦄ ⦃ws:List Value⦄ ⦃s:Shared⦄ ⦃E:Value→Shared→Prop⦄ ⦃Q:Unit→Shared→Prop⦄,is.all (flagF sl)=true→ctGo nm sl is xs=true→ER S as T env nm sl l s.heap→HR S as T H s.heap→VRs S.fa as T vs ws →
    (∀ h' tk,Ext (fun b=>b=env.locals) as T s.heap as T h'→HR S as T H h'→ER S as T env nm sl l' h'→Q () { s with heap:=h',toks:=tk })→wpAny (model S.prog S.w) A (assignInOrder ((assignEach xs env).map (·.2)) ws) Q E s
  | [],[],_,_,e=>by
    intro xs ws s E Q _ c er hr vr q
    rw [setMany_1] at e; first | exact nn e | exact ff e | cases e
    cases vr
    cases go_nil c
    exact wpAny_pure (q s.heap s.toks (.refl ..) hr er)
  | [],_::_,_,_,e=>nn e
  | _::_,[],_,_,e=>nn e
  | i::is,v::vs,l,l',e=>by
    intro xs ws s E Q f c er hr vr q
    rw [setMany_2] at e
    cases vr with
    | @cons v0 w1 l0 ws1 v1 v2 =>
      refine go_cons_k c fun n p xs c1 c2=>?_
      obtain⟨f1,f2⟩:=and2 (a:=flagF sl i) (b:=is.all (flagF sl)) f
      show wpAny _ A (do holding ws1 (assign (.Name n p) env w1); assignInOrder ((assignEach xs env).map (·.2)) ws1) Q E s
      refine wpAny_bind (wpAny_holding (assign_Name (set_flag f1 er hr c1 v1 fun h1 tk1 x1 hr1 er1=>?_)))
      exact sets_flag e f2 c2 er1 hr1 v2 fun h2 tk2 x2 hr2 er2=>q h2 tk2 (x1.trans x2) hr2 er2
theorem ct_flag {t:CT} {v:V} {l':Lo} {x:Expr} {w:Value} {Q:Unit→Shared→Prop} (e:setCT t v l=some l') (f:ctIn sl t=true) (c:ctIs nm sl t x=true) (hh:A.handled=none) (er:ER S as T env nm sl l s.heap) (hr:HR S as T H s.heap) (vr:VR S.fa as T v w)
    (q:∀ h' tk,Ext (fun b=>b=env.locals) as T s.heap as T h'→HR S as T H h'→ER S as T env nm sl l' h'→Q () { s with heap:=h',toks:=tk }):wpAny (model S.prog S.w) A (assign x env w) Q E s:=by
  cases t with
  | one i =>
    refine ct_one_k c fun n p c=>?_
    cases e
    exact assign_Name (set_flag f er hr c vr q)
  | many is =>
    refine ct_many_k c fun xs kk pos c=>?_
    cases v with
    | tup vs =>
      obtain⟨c1,c2⟩:=chTs_each (G:=S.G) (env:=env) (ct_go_ch c)
      refine wpAny_bind (wpAny_standAt ?_)
      unfold unpack
      rw [c2]
      refine wpAny_bind (wpAny_holding (unpk_ok (H:=H) (v:=.tup vs) (vs:=vs) rfl ?_ hh hr vr fun ws h' vv kp=>?_))
      · rw [c1,List.length_map]
        have:=asgTs_len (setMany_asg (ev:=fun _ _ _=>none) (H:=H) e)
        rw [List.length_map] at this
        exact this
      · have x0:Ext Nil as T s.heap as T h':=.keep kp
        refine sets_flag e f c (er.ext x0) (hr.keep kp) vv fun h2 tk2 x2 hr2 er2=>q h2 tk2 ?_ hr2 er2
        exact(Ext.nil (X:=fun b=>b=env.locals) x0 (fun b hb=>by rw [show b=env.locals from hb]; exact er.frame.1)).trans x2
    | _=>exact nn e
theorem setMany_other {j:Nat}:∀ {is:List Nat} {vs:List V} {l l':Lo},setMany is vs l=some l'→j ∉ is→l'[j]? = l[j]?
  | [],[],_,_,e,_=>by rw [setMany_1] at e; cases e; rfl
  | [],_::_,_,_,e,_=>nn e
  | _::_,[],_,_,e,_=>nn e
  | i::is,v::vs,_,_,e,h=>by
    rw [setMany_2] at e
    rw [setMany_other e (fun q=>h (.tail _ q)),List.getElem?_set_ne (fun q:i=j=>h (by rw [← q]; exact .head _))]
theorem setCT_other {t:CT} {v:V} {l':Lo} {j:Nat} {x:Str} (e:setCT t v l=some l') (f:ctIn sl t=true) (hj:sl[j]? = some (some (x,true))):l'[j]? = l[j]?:=by
  have no:∀ i,flagF sl i=true→j≠i:=fun i fi q=>by
    obtain⟨y,hy⟩:=flag_spec fi
    rw [← q,hj] at hy; cases hy
  cases t with
  | one =>
    cases e
    rw [List.getElem?_set_ne (Ne.symm (no _ f))]
  | many is=>cases v with
    | tup vs =>
      refine setMany_other e fun q=>?_
      exact no _ (List.all_eq_true.mp f _ q) rfl
    | _=>exact nn e
theorem ER.back {l':Lo} (x:ER S as T env nm sl l' h) (hl:l.length=sl.length) (h0:∀(i:Nat) (v:V) (y:Str),l[i]? = some (some v)→sl[i]? = some (some (y,false))→False) (h1:∀(i:Nat) (y:Str),sl[i]? = some (some (y,true))→l'[i]? = l[i]?):ER S as T env nm sl l h:=by
  obtain⟨m,hn,hm⟩:=x.loc
  refine⟨x.kind,x.glob,x.blt,x.names,x.dbg,hl,x.nd,⟨m,hn,fun i v y e1 e2=>(h0 i v y e1 e2).elim⟩,fun i y e1=>?_,x.cellx,x.cella,x.frame,x.cells⟩
  obtain⟨c,w,g1,g2,g3⟩:=x.cell i y e1
  exact⟨c,w,g1,g2,fun v hv=>g3 v (by rw [h1 i y e1]; exact hv)⟩
theorem own_names {sc:Scope} (hk:env.scope.kind=.function):(relabel sc env).names=ownNm sc.names env.scope.names:=by
  unfold relabel ownNm
  refine List.map_congr_left fun z _=>?_
  obtain⟨n,k⟩:=z
  show(if _ then _ else _)=(if _ then _ else _)
  have:(k == NameKind.free && env.scope.kind == .function && env.kindOf n == some .cell)=(kindIs k .free && (match nkOf n env.scope.names with | some k'=>kindIs k' .cell | none=>false)):=by
    rw [hk,nkOf_eq]
    unfold Env.kindOf
    cases k <;> simp [kindIs] <;> (cases hq:List.lookup n env.scope.names with
      | none=>rfl
      | some k'=>cases k' <;> rfl)
  rw [this]
  all_goals rfl
theorem frees_spec {nm:Nms}:∀ {names:Nms},frees names nm sl=true→∀ {x:Str} {k:NameKind},(x,k)∈names→k≠.cell∧(k=.free→nm.lookup x=some .cell∧∃ i:Nat,sl[i]? = some (some (x,true)))
  | [],_,x,k,h=>by simp at h
  | (y,j)::r,c,x,k,h=>by
    simp only [frees_1,frees_2,Bool.and_eq_true] at c
    rcases List.mem_cons.mp h with e | e
    · first | exact ff e | exact nn e | cases e
      have:=c.1
      cases j <;> simp only [Bool.false_eq_true,Bool.and_eq_true] at this
      · exact⟨by decide,fun q=>by cases q⟩
      · refine⟨by decide,fun _=>⟨?_,?_⟩⟩
        · have h1:=this.1
          split at h1
          · rename_i k' hk
            rw [nkOf_eq] at hk
            rw [hk,kindIs_eq h1]
          · first | exact ff h1 | exact nn h1 | cases h1
        · obtain⟨z,hz,hz2⟩:=List.any_eq_true.mp this.2
          obtain⟨i,hi⟩:=List.getElem?_of_mem hz
          split at hz2
          · exact⟨i,by rw [hi,beq_iff_eq.mp hz2]⟩
          · first | exact ff hz2 | exact nn hz2 | cases hz2
      · exact⟨by decide,fun q=>by cases q⟩
    · exact frees_spec c.2 e
theorem inner_mem:∀ {nm:Nms} {i:Nat} {z:Option (Str×Bool)},(innerSl nm)[i]? = some z→∃ x,z=some (x,false)∧(x,NameKind.local)∈nm
  | [],i,z,e=>by simp [innerSl_1,innerSl_2] at e
  | (y,k)::r,i,z,e=>by
    rw [innerSl_2] at e
    split at e
    · rename_i hc
      simp only [Bool.and_eq_true] at hc
      have hk:=kindIs_eq hc.1
      subst hk
      cases i with
      | zero=>simp at e; subst e; exact⟨y,rfl,.head _⟩
      | succ i=>obtain⟨x,h1,h2⟩:=inner_mem (nm:=r) (i:=i) (z:=z) (by simpa using e); exact⟨x,h1,.tail _ h2⟩
    · obtain⟨x,h1,h2⟩:=inner_mem e; exact⟨x,h1,.tail _ h2⟩
theorem inner_nd:∀ {nm:Nms},(nm.map (·.1)).Nodup→∀ {i j:Nat} {x:Str},(innerSl nm)[i]? = some (some (x,false))→(innerSl nm)[j]? = some (some (x,false))→i=j
  | [],_,i,_,_,e,_=>by simp [innerSl_1,innerSl_2] at e
  | (y,k)::r,hn,i,j,x,e1,e2=>by
    obtain⟨h1,h2⟩:=List.nodup_cons.mp hn
    have no:∀ {i:Nat},(innerSl r)[i]? = some (some (y,false))→False:=fun e=>by
      obtain⟨x,q,hm⟩:=inner_mem e
      cases q
      exact h1 (List.mem_map.mpr ⟨_,hm,rfl⟩)
    rw [innerSl_2] at e1 e2
    split at e1
    · rename_i hc
      rw [if_pos hc] at e2
      cases i <;> cases j
      · rfl
      · simp at e1 e2; subst e1; exact(no e2).elim
      · simp at e1 e2; subst e2; exact(no e1).elim
      · rename_i i j
        exact congrArg (· + 1) (inner_nd h2 (i:=i) (j:=j) (x:=x) (by simpa using e1) (by simpa using e2))
    · rename_i hc
      rw [if_neg hc] at e2
      exact inner_nd h2 e1 e2
theorem hide_spec_k {names:Nms} {i:Nat} {x:Str} {b:Bool} (e:(hideSl sl names)[i]? = some (some (x,b))) {zg:Prop} (zk:(b=true)→(sl[i]? = some (some (x,true)))→(names.lookup x=some .free)→zg):zg:=by
  unfold hideSl at e
  rw [List.getElem?_map] at e
  obtain⟨z,hz,e⟩:=Option.map_eq_some_iff.mp e
  split at e
  · rename_i y
    cases hq:nkOf y names with
    | none=>rw [hq] at e; simp at e
    | some k =>
      rw [hq] at e
      cases hk:kindIs k .free with
      | false=>simp [hk] at e
      | true=>simp [hk] at e; obtain⟨rfl,rfl⟩:=e; exact zk rfl hz (by rw [← nkOf_eq,hq,kindIs_eq hk])
  · first | exact ff e | exact nn e | cases e
theorem hide_spec {names:Nms} {i:Nat} {x:Str} {b:Bool} (e:(hideSl sl names)[i]? = some (some (x,b))):b=true∧sl[i]? = some (some (x,true))∧names.lookup x=some .free:=hide_spec_k e fun zh1 zh2 zh3=>⟨zh1,zh2,zh3⟩
theorem noDbg_own {names nm:Nms} (h:noDbg names=true):noDbg (ownNm names nm)=true:=by
  induction names with
  | nil=>rfl
  | cons z r ih =>
    obtain⟨n,k⟩:=z
    simp only [noDbg_1,noDbg_2,Bool.and_eq_true] at h
    have this:∀(c:Prop) [Decidable c],((if c then(n,NameKind.cell) else(n,k)):Str×NameKind).fst=n:=by intro c _; split <;> rfl
    show noDbg ((if _ then(n,NameKind.cell) else(n,k))::ownNm r nm)=true
    simp only [noDbg,this,h.1,Bool.true_and]
    exact ih h.2
theorem comp_frame {sc:Scope} {k:Nat} {C:Addr} {g:Str→Option Value} (er:ER S as T env nm sl l h) (kp:∀ b o,h.get? b=some o→h'.get? b=some o) (hC:h.get? C=none) (hO:C ∉ owned as∧S.h0.get? C=none) (hns:h'.Ns C g) (hk:kindIs0 sc=true) (hf:frees sc.names nm sl=true)
    (hn:(sc.names.map (·.1)).Nodup) (hi:(innerSl sc.names).length=k) :
    ER S as T (compEnvC sc (clOf env.cells sc.names []) C env) (ownNm sc.names nm) (hideSl sl sc.names++innerSl sc.names) (l++List.replicate k none) h':=by
  simp only [kindIs0,Bool.and_eq_true] at hk
  obtain⟨⟨⟨k1,k2⟩,k3⟩,k4⟩:=hk
  have kf:sc.kind=.function:=by
    split at k2
    · rename_i e; exact e
    · first | exact ff k2 | exact nn k2 | cases k2
  have hsl:(hideSl sl sc.names).length=sl.length:=by unfold hideSl; rw [List.length_map]
  have old:∀ {x:Str} {c:Addr},(clOf env.cells sc.names []).lookup x=some c→env.cells.lookup x=some c:=fun e=>by
    rcases clOf_old e with q | q
    · exact q
    · simp at q
  have un:∀ {x:Str} {i:Nat} {z:Option (Str×Bool)},sc.names.lookup x=some .free→(innerSl sc.names)[i]? = some z→z=some (x,false)→False:=fun h1 h2 h3=>by
    obtain⟨y,q,hm⟩:=inner_mem h2
    rw [h3] at q; first | exact nn q | exact ff q | cases q
    rw [nd_lookup hn hm] at h1; cases h1
  have li:∀ {i:Nat},i<sl.length→(l++List.replicate k (none:Option V))[i]? = l[i]?:=fun hi'=>List.getElem?_append_left (by rw [er.len]; exact hi')
  refine⟨kf,er.glob,er.blt,?_,noDbg_own k1,?_,fun i j y b c e1 e2=>?_,⟨g,hns,fun i v y e1 e2=>?_⟩,fun i y e1=>?_,fun y z c e1 e2=>er.cellx y z c (old e1) (old e2),fun y c e1=>?_,hO,fun y c e1=>er.cells y c (old e1)⟩
  · show(relabel sc env).names=_
    rw [own_names er.kind,er.names]
  · rw [List.length_append,List.length_append,List.length_replicate,hsl,hi,er.len]
  · by_cases hi1:i<sl.length
    · rw [List.getElem?_append_left (by rw [hsl]; exact hi1)] at e1
      refine hide_spec_k e1 fun zq191=>?_
      subst zq191
      intro f1 f2
      by_cases hj1:j<sl.length
      · rw [List.getElem?_append_left (by rw [hsl]; exact hj1)] at e2
        refine hide_spec_k e2 fun zq192=>?_
        subst zq192
        intro g1 g2
        exact er.nd i j y true true f1 g1
      · rw [List.getElem?_append_right (by rw [hsl]; exact Nat.not_lt.mp (lin [_,_] (.c 1 (.v 0) (.v 1) (.c 1 (.a (.v 1) (.n 1)) (.v 0) .z)) rfl (Nat.not_lt.mp hj1)))] at e2
        obtain⟨z,q,_⟩:=inner_mem e2
        cases q
        exact(un f2 e2 rfl).elim
    · rw [List.getElem?_append_right (by rw [hsl]; exact Nat.not_lt.mp (lin [_,_] (.c 1 (.v 0) (.v 1) (.c 1 (.a (.v 1) (.n 1)) (.v 0) .z)) rfl (Nat.not_lt.mp hi1)))] at e1
      obtain⟨z,q,_⟩:=inner_mem e1
      cases q
      by_cases hj1:j<sl.length
      · rw [List.getElem?_append_left (by rw [hsl]; exact hj1)] at e2
        refine hide_spec_k e2 fun zq193=>?_
        subst zq193
        intro g1 g2
        exact(un g2 e1 rfl).elim
      · rw [List.getElem?_append_right (by rw [hsl]; exact Nat.not_lt.mp (lin [_,_] (.c 1 (.v 0) (.v 1) (.c 1 (.a (.v 1) (.n 1)) (.v 0) .z)) rfl (Nat.not_lt.mp hj1)))] at e2
        obtain⟨z,q,_⟩:=inner_mem e2
        cases q
        have:=inner_nd hn e1 e2
        rw [hsl] at this
        omega
  · by_cases hi1:i<sl.length
    · rw [List.getElem?_append_left (by rw [hsl]; exact hi1)] at e2
      obtain⟨q,_⟩:=hide_spec e2
      cases q
    · rw [List.getElem?_append_right (by rw [er.len]; exact Nat.not_lt.mp (lin [_,_] (.c 1 (.v 0) (.v 1) (.c 1 (.a (.v 1) (.n 1)) (.v 0) .z)) rfl (Nat.not_lt.mp hi1))),List.getElem?_replicate] at e1
      split at e1 <;> cases e1
  · by_cases hi1:i<sl.length
    · rw [List.getElem?_append_left (by rw [hsl]; exact hi1)] at e1
      refine hide_spec_k e1 fun _ f1 f2=>?_
      obtain⟨c,w,g1,g2,g3⟩:=er.cell i y f1
      refine⟨c,w,clOf_free (mem_of_lookup f2) g1,cell_keep g2 fun o=>kp _ o,fun v hv=>g3 v (by rw [← li hi1]; exact hv)⟩
    · rw [List.getElem?_append_right (by rw [hsl]; exact Nat.not_lt.mp (lin [_,_] (.c 1 (.v 0) (.v 1) (.c 1 (.a (.v 1) (.n 1)) (.v 0) .z)) rfl (Nat.not_lt.mp hi1)))] at e1
      obtain⟨z,q,_⟩:=inner_mem e1
      cases q
  · obtain⟨w,hw⟩:=er.cella y c (old e1)
    exact⟨w,cell_keep hw fun o=>kp _ o⟩
end
end Mine
namespace Mine
section
variable {S:Sur} {call:CallT} {d:Nat} {as as':As} {T T':TS} {H H':Hp} {h h':Heap} {s:Shared} {env:Env} {nm:Nms} {sl:Sl} {l:Lo} {A:Around} {E:Value→Shared→Prop}
theorem none_big {h:Heap} {a:Addr} (ha:h.objs.size≤a):h.get? a=none:=by
  cases e:h.get? a with
  | none=>rfl
  | some o=>exact absurd (Heap.lt_size e) (Nat.not_lt.mpr ha)
theorem HR.fresh (hr:HR S as T H h) {b:Addr} (hb:h.get? b=none):b ∉ owned as∧S.h0.get? b=none:=by
  refine⟨fun q=>?_,?_⟩
  · obtain⟨o,ho⟩:=hr.alive q; rw [hb] at ho; cases ho
  · cases e:S.h0.get? b with
    | none=>rfl
    | some o=>have:=hr.base b o e; rw [hb] at this; cases this
theorem HR.noT_own (hr:HR S as T H h) {a:Addr} {ws:List Value} {k:Nat} (e:h.get? a=some (lst ws k)) (h0:S.h0.get? a=none) (i:Im):¬ T a i:=fun t=>by
  have:=hr.im a i t
  cases i with
  | tup us=>obtain⟨o',e',c,_⟩:=this; rw [e] at e'; cases e'; simp [lst] at c
  | ro us=>obtain⟨o,q⟩:=hr.ro a us t; rw [h0] at q; cases q
  | rng i j l=>obtain⟨t,u,v,e'⟩:=this; have e2:=e.symm.trans e'; simp [lst] at e2
theorem Ext.adopt {as as1:As} {T T1:TS} {h h1:Heap} {D:Addr} (x:Ext Nil as T h as1 T1 h1) (hD:h.get? D=none):Ext Nil as T h (as1++[(D,none)]) T1 h1:=by
  refine⟨⟨fun n p e=>getElem?_append_some (x.mono.asx n p e),x.mono.tx⟩,x.kp,x.al,fun b hb=>?_⟩
  rw [owned_append] at hb
  rcases List.mem_append.mp hb with q | q
  · exact x.own b q
  · simp [owned] at q; subst q; exact .inr hD
theorem compN_inv {cs:Lo→Hp→Option (Bool×Hp)} {x:Lo→Hp→Option (V×Hp)} {t:CT} {n:Nat} {it:It} {acc:List V} {r:List V×Hp} (e:compN cs x t l (n+1) it acc H=some r):(nextI H it=some none∧(acc.reverse,H)=r) ∨
    ∃ v it' l1 b H1,nextI H it=some (some (v,it'))∧setCT t v l=some l1∧cs l1 H=some (b,H1)∧((b=true∧∃ w H2,x l1 H1=some (w,H2)∧compN cs x t l n it' (w::acc) H2=some r)∨(b=false∧compN cs x t l n it' acc H1=some r)):=by
  rw [compN_2] at e
  cases hn:nextI H it with
  | none=>rw [hn] at e; cases e
  | some z=>cases z with
    | none=>rw [hn] at e; exact .inl ⟨rfl,Option.some.inj e⟩
    | some z =>
      obtain⟨v,it'⟩:=z
      rw [hn] at e
      dsimp only at e
      cases hs:setCT t v l with
      | none=>rw [hs] at e; cases e
      | some l1 =>
        rw [hs] at e
        refine bnd_some_k e fun b H1 e1 e=>?_
        refine .inr ⟨v,it',l1,b,H1,rfl,hs,e1,?_⟩
        cases b with
        | true=>refine bnd_some_k e fun w H2 e2 e3=>?_; exact .inl ⟨rfl,w,H2,e2,e3⟩
        | false=>exact .inr ⟨rfl,e⟩
inductive CJ (S:Sur) (call:CallT) (s:Shared) (env:Env) (nm:Nms) (sl:Sl) (l:Lo) (I D:Addr) (as1:As) (T1:TS) (h1:Heap) (t:CT) (cs:List ME) (elt:ME) (vs:List V) (H2:Hp) (n:Nat):Shared→Prop where
  | mk (hN:Heap) (tkN:_) (asN:As) (TN:TS) (HN:Hp) (itN:It) (acc:List V) (ws:List Value) (kN:Nat) (x:Ext Nil as1 T1 h1 asN TN hN) (r:HR S asN TN HN hN) (er:ER S asN TN env nm sl l hN) (ir:IR S asN TN hN itN I) (f:Free S asN env I) (g:hN.get? D=some (lst ws kN)) (v:VRs S.fa asN TN acc.reverse ws) (fD:Free S asN env D)
      (e:compN (fun l H=>evC S.P call cs l H) (fun l H=>evE S.P call elt l H) t l n itN acc HN=some (vs,H2)):CJ S call s env nm sl l I D as1 T1 h1 t cs elt vs H2 n { s with heap:=hN,toks:=tkN }
theorem comp_turns {elt:ME} {t:CT} {cs:List ME} (helt:EvS S call d elt) (hcs:AllEv S call d cs) {x tg it0:Expr} {ifs:List Expr} {sc:Scope} {pos:Pos} {I D:Addr} {as1:As} {T1:TS} {h1:Heap} {R:Result→Shared→Prop} {vs:List V} {n:Nat} {itr:It} {H2:Hp} (ao:AOk A d)
    (c3:ctIn sl t=true) (c4:ctIs nm sl t tg=true) (c5:chL S.G cs nm sl ifs=true) (c6:chE S.G elt nm sl x=true) (hlim:vs.length≤lim) (hI:h1.get? I=none) (hD1:h1.get? D=none) (hC1:h1.get? env.locals=none) (ID:I≠D) (IC:I≠env.locals) (bigD:sysModules<D)
    (hl0:∀(i:Nat) (v:V) (y:Str),l[i]? = some (some v)→sl[i]? = some (some (y,false))→False) (x14:Ext Nil as1 T1 h1 as T s.heap) (hr:HR S as T H s.heap) (er:ER S as T env nm sl l s.heap) (ir:IR S as T s.heap itr I) (fI:Free S as env I) (D4:s.heap.get? D=some (lst [] 0)) (fD:Free S as env D)
    (e2:compN (fun l H=>evC S.P call cs l H) (fun l H=>evE S.P call elt l H) t l n itr [] H=some (vs,H2))
    (q:∀ h5 tk asN TN m,h5.Ns env.locals m→Ext Nil as1 T1 h1 asN TN h5→HR S (asN++[(D,none)]) TN (H2++[.list vs]) h5→VR S.fa (asN++[(D,none)]) TN (.loc H2.length) (.ref D)→env.locals ∉ owned asN→R (.ok .next) { s with heap:=h5,toks:=tk }) :
    codeAny (model S.prog S.w) A (.compLoop (.ListComp x [⟨tg,it0,ifs,0⟩] sc pos) 0 (.ref I) (.ref D) env) R s:=by
  have hlen0:=er.len
  refine loop_tests (CJ S call s env nm sl l I D as1 T1 h1 t cs elt vs H2) (fun n s' hI'=>?_) n (.mk s.heap s.toks as T H itr [] [] 0 x14 hr er ir fI D4 .nil fD e2)
  obtain⟨hN,tkN,asN,TN,HN,itN,acc,ws,kN,xN,hrN,erN,irN,fIN,DN,vN,fDN,eN⟩:=hI'
  clear e2 D4 fI fD ir er hr x14
  generalize notedBy (model S.prog S.w) A env (fun e s'=>R (.error e) s')=E1
  cases n with
  | zero=>rw [compN_1] at eN; cases eN
  | succ n =>
    rcases compN_inv eN with⟨hnx,eN⟩ | ⟨u,it',l5,b,H7,hnx,e5,e7,eN⟩
    · cases eN
      refine next_ok hnx irN fIN.own hrN ao.handled fun h5 k5=>?_
      have hr5:=hrN.iter irN fIN k5
      have D5:=k5 _ _ (Ne.symm ID) DN
      obtain⟨hr6,vr6⟩:=hr5.adopt D5 fDN.own fDN.old bigD vN (by simpa using hlim)
      obtain⟨m,hm,_⟩:=erN.loc
      exact q h5 _ asN TN m (ns_keep hm fun o=>k5 _ o (Ne.symm IC)) (xN.off k5 hI (fun z=>z)) hr6 vr6 erN.frame.1
    · refine next_ok hnx irN fIN.own hrN ao.handled fun wu h5 tk5 k5 ir5 ru=>own_go ir5 ?_
      have hr5:=hrN.iter irN fIN k5
      have er5:=erN.but fIN k5
      have x5:=xN.off k5 hI (fun z=>z)
      have D5:=k5 _ _ (Ne.symm ID) DN
      refine ct_flag e5 c3 c4 ao.handled er5 hr5 ru fun h6 tk6 x6 hr6 er6=>?_
      have x16:Ext Nil as1 T1 h1 asN TN h6:=x5.close x6 fun b hb=>by rw [show b=env.locals from hb]; exact hC1
      have D6:=x6.kp _ _ fDN.own (fun z=>fDN.loc z) D5
      have ir6:=ir5.ext x6 fIN.own (fun z=>fIN.loc z)
      refine tests_ok hcs e7 ao c5 er6 hr6 fun h7 tk7 as7 T7 x7 hr7=>?_
      have er7:=er6.ext x7
      have x17:=x16.trans x7
      have D7:=x7.kp _ _ fDN.own (fun z=>z) D6
      obtain⟨oI6,hoI6,_⟩:=ir6.alive
      have fI7:=fIN.ext x7 hoI6
      have fD7:=fDN.ext x7 D6
      have ir7:=ir6.ext x7 fIN.own (fun z=>z)
      rcases eN with⟨rfl,r,H8,e8,eN⟩ | ⟨rfl,eN⟩
      · rw [if_pos rfl]
        refine helt e8 ao c6 er7 hr7 fun wr h8 tk8 as8 T8 x8 hr8 rr=>?_
        have D8:=x8.kp _ _ fD7.own (fun z=>z) D7
        have er8:=er7.ext x8
        obtain⟨oI7,hoI7,_⟩:=ir7.alive
        have fI8:=fI7.ext x8 hoI7
        have fD8:=fD7.ext x8 D7
        have ir8:=ir7.ext x8 fI7.own (fun z=>z)
        have v8:VRs S.fa as8 T8 acc.reverse ws:=(vN.mono x7.mono).mono x8.mono
        have hlen:ws.length≤lim:=by
          have:=compN_len eN
          rw [List.length_cons] at this
          have h2:=v8.length
          rw [List.length_reverse] at h2
          exact Nat.not_lt.mp (lin [_,_,_,_] (.c 1 (.v 0) (.v 1) (.c 1 (.a (.v 2) (.n 1)) (.v 0) (.c 1 (.v 3) (.v 2) (.c 1 (.a (.v 1) (.n 1)) (.v 3) .z)))) rfl hlim this (Nat.le_of_eq h2))
        refine append_at (its:=ws.toArray) (n:=kN) D8 (fun h9 sb9 e9=>?_) (by rw [List.size_toArray]; exact lim_size hlen)
        have k9:∀ b o,b≠D→h8.get? b=some o→h9.get? b=some o:=fun b o nb e=>(sb9.2 b nb).trans e
        refine⟨n,Nat.lt_succ_self n,.mk h9 _ as8 T8 H8 it' (r::acc) (ws++[wr]) (kN+1) ((x17.trans x8).off k9 hD1 (fun z=>z)) (hr8.but k9 fD8.own fD8.old (hr8.noT_own D8 fD8.old)) ?_ (ir8.keep (.refl ..) fun o=>k9 _ o ID) fI8 (by rw [e9]; simp [lst]) ?_ fD8 eN⟩
        · exact(er8.but fD8 k9).back hlen0 hl0 fun i y hy=>setCT_other e5 c3 hy
        · rw [List.reverse_cons]; exact v8.append (.cons rr .nil)
      · rw [if_neg Bool.false_ne_true]
        exact⟨n,Nat.lt_succ_self n,.mk h7 _ as7 T7 H7 it' acc ws kN x17 hr7 (er7.back hlen0 hl0 fun i y hy=>setCT_other e5 c3 hy) ir7 fI7 D7 (vN.mono x7.mono) fD7 eN⟩
theorem comp_gen {elt src:ME} {t:CT} {k:Nat} {cs:List ME} (hsrc:EvS S call d src) (helt:EvS S call d elt) (hcs:AllEv S call d cs) {v:V} (e:evE S.P call (.comp elt src t k cs) l H=some (v,H')) {x tg it:Expr} {ifs:List Expr} {sc:Scope} {pos p:Pos}
    {use:Option (Value→Sem Unit)} {Q:Value→Shared→Prop} (ao:AOk A d) (c:chE S.G (.comp elt src t k cs) nm sl (.ListComp x [⟨tg,it,ifs,0⟩] sc pos)=true) (er:ER S as T env nm sl l s.heap) (hr:HR S as T H s.heap)
    (q:∀ D C h' tk as' T' m,h'.Ns C m→Ext Nil as T s.heap as' T' h'→HR S as' T' H' h'→VR S.fa as' T' v (.ref D)→s.heap.get? C=none→C ∉ owned as'→compPost (model S.prog S.w) A E use Q (.ref D) C (.ok .next) { s with heap:=h',toks:=tk }) :
    wpAny (model S.prog S.w) A (comprehension (.ListComp x [⟨tg,it,ifs,0⟩] sc pos) sc env p (newList []) false (eval it env) use) Q E s:=by
  refine ev_comp_k e fun sv H1 itr vs H2 e1 hit e2 hlim zq194=>?_
  subst zq194
  intro zq195
  subst zq195
  obtain⟨cs12,c0⟩:=and2 (a:=notSet it && chE S.G src nm sl it) c
  obtain⟨cs1,cs2⟩:=and2 cs12
  obtain⟨d1,c8⟩:=and2 (b:=frees sc.names nm sl) c0
  obtain⟨d2,c7⟩:=and2 d1
  obtain⟨d3,c6⟩:=and2 d2
  obtain⟨d4,c5⟩:=and2 d3
  refine and4_k d4 fun c1 c2 c3 c4=>?_
  have hnd:=ndStr_nodup c7
  have kf:sc.kind=.function:=by
    have:=c2
    simp only [kindIs0,Bool.and_eq_true] at this
    have:=this.1.1.2
    split at this
    · rename_i e; exact e
    · cases this
  have hcl:closureFor sc env=pure (clOf env.cells sc.names []):=closure_ok fun y hy=>by
    obtain⟨_,i,hi⟩:=(frees_spec c8 hy).2 rfl
    obtain⟨c,w,g1,_⟩:=er.cell i y hi
    rw [g1]; rfl
  refine wpAny_comprehension_free (use:=use) rfl (set_folded cs1 env) hcl kf (fun y hy hl=>by obtain⟨y1,y2⟩:=y; cases hl; exact nd_lookup hnd hy) ?_
  refine hsrc e1 ao cs2 er hr fun w h1 tk1 as1 T1 x1 hr1 vr=>?_
  refine iter_ok hit hr1 vr fun I h2 hI kp2 ir2=>?_
  have er1:=er.ext x1
  have nI:=hr1.fresh hI
  have hr2:=hr1.keep kp2
  obtain⟨oI,hoI,_⟩:=ir2.alive
  refine wpAny_newList ?_
  have low1:∀ {b},h2.objs.size≤b→h1.get? b=none:=fun {b} hb=>by
    cases z:h1.get? b with
    | none=>rfl
    | some o=>exact absurd (Heap.lt_size (kp2 _ _ z)) (Nat.not_lt.mpr hb)
  refine wpAny_newFunctionEnv (fun y hy=>(frees_spec c8 (x:=y.1) (k:=y.2) hy).1) (by intro y hy; simp at hy) (fun h4 hns4 hsb4=>?_) kf
  dsimp only at hns4 hsb4 ⊢
  generalize hG:h2.push { cls:=Value.type "list",dict:=none,data:=Data.seq ([]:List Value).toArray } = G2 at hns4 hsb4 ⊢
  have hC:G2.objs.size=h2.objs.size+1:=by rw [← hG,Heap.size_push]
  have kpG:∀ b o,h2.get? b=some o→G2.get? b=some o:=fun b o e=>hG▸keep_push _ b o e
  have kp4:∀ b o,b≠G2.objs.size→G2.get? b=some o→h4.get? b=some o:=fun b o nb e=>(hsb4.2 b nb).trans (keep_push _ b o e)
  have lt2:∀ {b o},h2.get? b=some o→b≠G2.objs.size:=fun e=>by rw [hC]; exact Nat.ne_of_lt (Nat.lt_succ_of_lt (Heap.lt_size e))
  have kp24:∀ b o,h2.get? b=some o→h4.get? b=some o:=fun b o e=>kp4 b o (lt2 e) (kpG b o e)
  have dC:h2.objs.size≠G2.objs.size:=by rw [hC]; exact Nat.ne_of_lt (Nat.not_le.mp (lin [_] (.c 1 (.a (.v 0) (.n 1)) (.v 0) .z) rfl))
  have D4:h4.get? h2.objs.size=some (lst [] 0):=kp4 _ _ dC (hG▸Heap.get?_push_size _ rfl)
  have hD1:h1.get? h2.objs.size=none:=low1 (Nat.le_refl _)
  have hC1:h1.get? G2.objs.size=none:=low1 (by rw [hC]; exact Nat.not_lt.mp (lin [_] (.c 1 (.a (.a (.v 0) (.n 1)) (.n 1)) (.v 0) .z) rfl))
  have nD:=hr1.fresh hD1
  have bigD:sysModules<h2.objs.size:=by
    obtain⟨o',ho'⟩:=hr2.two
    exact Nat.lt_trans (show sysModules<cStatics by decide) (Heap.lt_size (hr2.base _ _ ho'))
  have nC:=hr1.fresh hC1
  have ID:I≠h2.objs.size:=Nat.ne_of_lt (Heap.lt_size hoI)
  have IC:I≠G2.objs.size:=lt2 hoI
  have er4:=comp_frame (k:=k) er1 (h':=h4) (fun b o e=>kp24 b o (kp2 b o e)) hC1 nC hns4 c2 c8 hnd (of_decide_eq_true c1)
  have cellsI:∀ {b:Addr},h1.get? b=none→∀ y,(clOf env.cells sc.names []).lookup y≠some b:=fun hb y q=>by
    rcases clOf_old q with z | z
    · obtain⟨w,hw⟩:=er1.cella y _ z
      obtain⟨o,ho⟩:=cell_alive hw
      rw [hb] at ho; cases ho
    · simp at z
  have fI:Free S as1 (compEnvC sc (clOf env.cells sc.names []) G2.objs.size env) I:=⟨nI.1,nI.2,IC,cellsI hI⟩
  have fD:Free S as1 (compEnvC sc (clOf env.cells sc.names []) G2.objs.size env) h2.objs.size:=⟨nD.1,nD.2,dC,cellsI hD1⟩
  have ir4:IR S as1 T1 h4 itr I:=ir2.keep (.refl ..) fun o e=>kp24 I o e
  have x14:Ext Nil as1 T1 h1 as1 T1 h4:=.keep fun b o e=>kp24 b o (kp2 b o e)
  have hl0:∀(i:Nat) (v:V) (y:Str),(l++List.replicate k (none:Option V))[i]? = some (some v)→(hideSl sl sc.names++innerSl sc.names)[i]? = some (some (y,false))→False:=by
    intro i v y f1 f2
    have hsl:(hideSl sl sc.names).length=l.length:=by unfold hideSl; rw [List.length_map,er.len]
    by_cases hi:i<l.length
    · rw [List.getElem?_append_left (by rw [hsl]; exact hi)] at f2
      obtain⟨z,_⟩:=hide_spec f2
      cases z
    · rw [List.getElem?_append_right (by exact Nat.not_lt.mp (lin [_,_] (.c 1 (.v 0) (.v 1) (.c 1 (.a (.v 1) (.n 1)) (.v 0) .z)) rfl (Nat.not_lt.mp hi))),List.getElem?_replicate] at f1
      split at f1 <;> cases f1
  have loop:∀ tk,codeAny (model S.prog S.w) A (.compLoop (.ListComp x [⟨tg,it,ifs,0⟩] sc pos) 0 (.ref I) (.ref h2.objs.size) (compEnvC sc (clOf env.cells sc.names []) G2.objs.size env)) (compPost (model S.prog S.w) A E use Q (.ref h2.objs.size) G2.objs.size) { s with heap:=h4,toks:=tk }:=by
    intro tk
    refine comp_turns helt hcs ao c3 c4 c5 c6 hlim hI hD1 hC1 ID IC bigD hl0 x14 (hr2.keep kp24) er4 ir4 fI D4 fD e2 fun h5 tk5 asN TN m hm xN hr6 vr6 hO=>?_
    refine q _ _ h5 _ _ TN m hm (x1.trans (xN.adopt hD1)) hr6 vr6 (x1.dead hr1 hC1) ?_
    rw [owned_append]
    intro z
    rcases List.mem_append.mp z with z | z
    · exact hO z
    · simp [owned] at z; exact dC z.symm
  exact codeAny_compStart_list (loop _) (ir4.self (loop _))
theorem s_comp {elt src:ME} {t:CT} {k:Nat} {cs:List ME} (hsrc:EvS S call d src) (helt:EvS S call d elt) (hcs:AllEv S call d cs):EvS S call d (.comp elt src t k cs):=by
  intro l H H' v e nm sl x s as T env A E Q ao c er hr q
  refine ch_comp_k c fun y tg it ifs sc pos c=>?_
  · rw [eval_ListComp]
    refine comp_gen hsrc helt hcs (use:=none) e ao c er hr fun D C h' tk as' T' m hm x' hr' vr hC hO=>⟨m,hm,fun h'' sb=>?_⟩
    have kp:∀ b o,b≠C→h'.get? b=some o→h''.get? b=some o:=fun b o nb e=>(sb.2 b nb).trans e
    have h0C:=(hr.fresh hC).2
    exact q _ _ _ _ _ (x'.off kp hC (fun z=>z)) (hr'.but kp hO h0C (noT_ns hr' hm)) vr
end
end Mine
namespace Mine
section
variable {S:Sur} {call:CallT} {d:Nat} {as as':As} {T T':TS} {H H':Hp} {h h':Heap} {s:Shared} {env:Env} {nm:Nms} {sl:Sl} {l:Lo} {A:Around} {E:Value→Shared→Prop}
theorem sw_true {n:Str} {py pos px:Pos} {x:Expr} {gens:List Comprehension} {sc:Scope} (er:ER S as T env nm sl l h)
    (c:(nm.lookup n == some .local && py.line == px.line && !(sc.names.any fun(z,k)=>z == n && (k == .local || k == .cell)))=true):swapsWith (.ListComp x gens sc px) (some (.Name n py)) pos.line env=pure true:=by
  have hb:env.blockKind=.function:=by unfold Env.blockKind; rw [er.kind]; rfl
  show(do return env.blockKind == .function && env.kindOf n == some .local && py.line == px.line && !(sc.names.any fun(z,k)=>z == n && (k == .local || k == .cell)):Sem Bool)=pure true
  have hk:env.kindOf n=nm.lookup n:=by unfold Env.kindOf; rw [er.names]
  rw [hb,hk]
  have:(ScopeKind.function == ScopeKind.function)=true:=rfl
  rw [this,Bool.true_and,c]
theorem asg_comp {i:Nat} {elt src:ME} {t:CT} {k:Nat} {cs:List ME} (hsrc:EvS S call d src) (helt:EvS S call d elt) (hcs:AllEv S call d cs) {l':Lo} {fl:Fl} (e:exS S.P call (.asg (.loc i) (.comp elt src t k cs)) l H=some (fl,l',H')) {n:Str} {py pos px:Pos} {x:Expr} {gens:List Comprehension} {sc:Scope}
    {as:As} {T:TS} {Q:Flow→Shared→Prop} (ao:AOk A d) (c1:isLoc nm sl i n=true) (c2:chE S.G (.comp elt src t k cs) nm sl (.ListComp x gens sc px)=true)
    (c3:(nm.lookup n == some .local && py.line == px.line && !(sc.names.any fun(z,k)=>z == n && (k == .local || k == .cell)))=true) (er:ER S as T env nm sl l s.heap) (hr:HR S as T H s.heap) (q:RetS S as T s env nm sl fl l' H' Q) :
    wpAny (model S.prog S.w) A (exec (.Assign [.Name n py] (.ListComp x gens sc px) pos) env) Q E s:=by
  refine comp_gens (P:=fun gens=>wpAny (model S.prog S.w) A (exec (.Assign [.Name n py] (.ListComp x gens sc px) pos) env) Q E s) c2 fun tg it ifs c2=>?_
  refine ex_asg_k e fun v H1 l1 H2 e1 e2 e=>?_
  cases e
  have e2:some (l.set i (some v),H1)=some (l',H'):=e2
  cases e2
  rw [exec_Assign_Name_used _ _ _ _ (sw_true er c3)]
  · refine wpAny_bind (wpAny_standAt (wpAny_bind ?_))
    show wpAny _ A (do let _ ← comprehension (.ListComp x [⟨tg,it,ifs,0⟩] sc px) sc env _ (newList []) false (eval it env) (some (assign (.Name n py) env))) _ _ s
    refine wpAny_bind (wpAny_mono (comp_gen (E:=E) hsrc helt hcs (use:=some (assign (.Name n py) env)) (Q:=fun _ s'=>Q .next s') e1 ao c2 er hr fun D C h' tk as' T' m hm x' hr' vr hC hO=>?_) (fun _ s' hq=>wpAny_pure (wpAny_pure hq)) fun _ _ e=>e)
    have fC:=er.fresh hr hC
    obtain⟨oC,hoC⟩:=ns_alive hm
    have fC':Free S as' env C:=fC.ext x' (o:=oC) |> fun _=>⟨hO,fC.old,fC.loc,fC.cell⟩
    refine assign_Name (store_ok (er.ext x') hr' c1 vr fun h3 tk3 as3 T3 x3 hr3 er3=>?_)
    have hm3:=ns_keep hm fun o e=>x3.kp C o hO fC'.nex e
    refine⟨m,hm3,fun h4 sb=>?_⟩
    have kp:∀ b o,b≠C→h3.get? b=some o→h4.get? b=some o:=fun b o nb e=>(sb.2 b nb).trans e
    have f3:Free S as3 env C:=fC'.ext x3 hoC
    exact q _ _ _ _ _ (((x'.nil er.exo).trans x3).off kp hC fC.nex) (hr3.but kp f3.own f3.old (noT_ns hr3 hm3)) (er3.but f3 kp) .next
theorem st_asg {t:Tg} {e0:ME} (ht:AsS S call d t) (h0:EvS S call d e0) (hc:∀ elt src ct k cs,e0=.comp elt src ct k cs→EvS S call d src∧EvS S call d elt∧AllEv S call d cs):StS S call d (.asg t e0):=by
  intro l l' H H' fl e nm sl x s as T env A E Q ao c er hr q
  refine cs_asg_k c fun y x p c1 c2 c3=>?_
  cases hn:notComp x with
  | true =>
    have c3:(bif notComp x then swOk nm sl t (swpQ nm y x) else cmpS nm y x t)=true:=c3
    rw [hn] at c3
    exact asg_ok ht h0 e ao c1 c2 hn c3 er hr q
  | false =>
    have c3:(bif notComp x then swOk nm sl t (swpQ nm y x) else cmpS nm y x t)=true:=c3
    rw [hn] at c3
    have c3:cmpS nm y x t=true:=c3
    refine cmpS_inv_k c3 fun n py elt0 gens sc px i zq198=>?_
    subst zq198
    intro zq199
    subst zq199
    intro zq200
    subst zq200
    intro c3
    cases e0 with
    | comp elt src ct k cs =>
      obtain⟨g1,g2,g3⟩:=hc _ _ _ _ _ rfl
      exact asg_comp g1 g2 g3 e ao c1 c2 c3 er hr q
    | bad =>
      obtain⟨_,_,_,_,e1,_⟩:=ex_asg e
      exact nn e1
    | _=>exact ff c2
theorem HR.adoptO {D:Addr} {o:O} (x:HR S as T H h) (ho:D ∉ owned as) (h0:S.h0.get? D=none) (hg:sysModules<D) (hv:OR S (as++[(D,none)]) T h o (D,none)) :
    HR S (as++[(D,none)]) T (H++[o]) h:=by
  have m:Mono as T (as++[(D,none)]) T:=⟨fun n q e=>getElem?_append_some e,fun _ _ e=>e⟩
  refine⟨x.base,by rw [List.length_append,List.length_append,x.len]; rfl,fun n q r e1 e2=>?_,?_,fun a ha=>?_,x.im,x.t0,x.ro,x.two,fun a ha=>?_⟩
  · by_cases hn:n<H.length
    · rw [List.getElem?_append_left hn] at e1
      rw [List.getElem?_append_left (by rw [x.len]; exact hn)] at e2
      exact(x.obj n q r e1 e2).keep m (fun _ z=>z) (fun _ _ _ z=>z)
    · have hl:=(List.getElem?_eq_some_iff.mp e1).1
      rw [List.length_append] at hl
      have:n=H.length:=Nat.le_antisymm (Nat.le_of_lt_succ hl) (Nat.not_lt.mp hn)
      subst this
      rw [List.getElem?_append_right (Nat.le_refl _),Nat.sub_self] at e1
      rw [List.getElem?_append_right (by rw [x.len]; exact Nat.le_refl _),x.len,Nat.sub_self] at e2
      cases e1; cases e2
      exact hv
  · rw [owned_append]
    refine List.nodup_append.mpr ⟨x.nd,List.nodup_cons.mpr ⟨(fun q=>nomatch q),.nil⟩,fun a ha b hb q=>?_⟩
    rw [q,List.mem_singleton.mp hb] at ha
    exact ho ha
  · rw [owned_append] at ha
    rcases List.mem_append.mp ha with q | q
    · exact x.new a q
    · rw [List.mem_singleton.mp q]; exact h0
  · rw [owned_append] at ha
    rcases List.mem_append.mp ha with q | q
    · exact x.big a q
    · rw [List.mem_singleton.mp q]; exact hg
theorem HR.size_big (hr:HR S as T H h):sysModules<h.objs.size:=by
  obtain⟨o',ho'⟩:=hr.two
  exact Nat.lt_trans (by decide) (Heap.lt_size (hr.base _ _ ho'))
noncomputable def RetD (S:Sur) (as:As) (T:TS) (s:Shared) (H':Hp) (ds:List (List Nat×V)) (Q:List (Value×Value)→Shared→Prop):Prop :=
  ∀ vs kvs h' tk as' T',Ext Nil as T s.heap as' T' h'→HR S as' T' H' h'→Carries (strKind S.prog S.w) vs kvs→DR S as' T' ds kvs→Q vs { s with heap:=h',toks:=tk }
theorem DR.off {k:List Nat} {es:List (List Nat×V)} {ds:List (Str×Value)} (h:DR S as T es ds) (e:(lookS k es).isNone=true):(⟨k.toArray⟩:Str) ∉ ds.map (·.1):=by
  induction h with
  | nil=>exact fun h=>nomatch h
  | @cons j v w es ds _ _ ih =>
    rw [lookS_2] at e
    have hj:¬ (j == k)=true:=fun h=>by rw [if_pos h] at e; cases e
    rw [if_neg hj] at e
    intro h
    rcases List.mem_cons.mp h with h | h
    · have h:=beq_iff_eq.mpr h
      rw [str_beq2] at h
      exact hj (beq_iff_eq.mpr (beq_iff_eq.mp h).symm)
    · exact ih e h
noncomputable def NdD:List (List Nat×V)→Prop
  | []=>True
  | (k,_)::r=>(lookS k r).isNone=true∧NdD r
theorem DR.nd {es:List (List Nat×V)} {ds:List (Str×Value)} (h:DR S as T es ds) (n:NdD es):(ds.map (·.1)).Nodup:=by
  induction h with
  | nil=>exact .nil
  | cons _ h ih=>exact List.nodup_cons.mpr ⟨h.off n.1,ih n.2⟩
noncomputable def EvDS (S:Sur) (call:CallT) (d:Nat) (es:List ME):Prop:=∀ ⦃l:Lo⦄ ⦃H H':Hp⦄ ⦃ds:List (List Nat×V)⦄,evD S.P call es l H=some (ds,H') →
  ∀ ⦃nm:Nms⦄ ⦃sl:Sl⦄ ⦃ks:List (Option Expr)⦄ ⦃us:List Expr⦄ ⦃s:Shared⦄ ⦃as:As⦄ ⦃T:TS⦄ ⦃env:Env⦄ ⦃A:Around⦄ ⦃E:Value→Shared→Prop⦄ ⦃Q:List (Value×Value)→Shared→Prop⦄ ⦃pos:Pos⦄,AOk A d→chD S.G es nm sl ks us=true→ER S as T env nm sl l s.heap→HR S as T H s.heap →
    RetD S as T s H' ds Q→wpAny (model S.prog S.w) A (evalPairs (pairTrees ks us env pos)) Q E s
theorem evD_3 {P:Pg} {k v:ME} {r:List ME} {l:Lo} {H:Hp}:evD P call (k::v::r) l H=bnd (evE P call k l H) fun k H=>bnd (evE P call v l H) fun v H=>bnd (evD P call r l H) fun es H=>(match k with
    | .str s=>if(lookS s es).isNone then some ((s,v)::es,H) else none
    | _=>none):=by rw [evD] <;> rfl
theorem evD_inv_k {P:Pg} {k v:ME} {r:List ME} {ds:List (List Nat×V)} (e:evD P call (k::v::r) l H=some (ds,H')) {zg:Prop} (zk:∀ z b es H1 H2,evE P call k l H=some (.str z,H1)→evE P call v l H1=some (b,H2)→evD P call r l H2=some (es,H')→(lookS z es).isNone=true→ds=(z,b)::es→zg):zg:=by
  rw [evD_3] at e
  refine bnd_some_k e fun a H1 e1 e=>?_
  refine bnd_some_k e fun b H2 e2 e=>?_
  refine bnd_some_k e fun es' H3 e3 e=>?_
  cases a with
  | str z =>
    have e:(if(lookS z es').isNone then some ((z,b)::es',H3) else none)=some (ds,H'):=e
    cases hz:(lookS z es').isNone with
    | false=>rw [hz] at e; cases e
    | true=>rw [hz] at e; cases e; exact zk z b es' H1 H2 e1 e2 e3 hz rfl
  | _=>cases e
theorem cD_cons_k {G:Str→Option GV} {k v:ME} {r:List ME} {ks:List (Option Expr)} {us:List Expr} {P:List (Option Expr)→List Expr→Prop} (c:chD G (k::v::r) nm sl ks us=true) (zk:∀ x ks y us,chE G k nm sl x=true→chE G v nm sl y=true→chD G r nm sl ks us=true→P (some x::ks) (y::us)):P ks us:=by
  cases ks with
  | nil=>exact ff c
  | cons x ks=>cases x with
    | none=>exact ff c
    | some x=>cases us with
      | nil=>exact ff c
      | cons y us =>
        have c1:(chE G k nm sl x && chE G v nm sl y && chD G r nm sl ks us)=true:=c
        exact zk x ks y us (and2 (and2 c1).1).1 (and2 (and2 c1).1).2 (and2 c1).2
structure DSh (ds:List (List Nat×V)) (ks:List (Option Expr)) (us:List Expr):Prop where
  nd:NdD ds
  l1:ds.length=us.length
  l2:ks.length=us.length
  al:ks.all (·.isSome)=true
theorem d_shape {G:Str→Option GV} {P:Pg}:∀ {es:List ME} {l:Lo} {H H':Hp} {ds:List (List Nat×V)} {ks:List (Option Expr)} {us:List Expr},evD P call es l H=some (ds,H')→chD G es nm sl ks us=true→DSh ds ks us
  | [],_,_,_,_,_,_,e,c=>by
    rw [evD] at e; cases e
    obtain⟨rfl,rfl⟩:=cD_nil c
    exact⟨trivial,rfl,rfl,rfl⟩
  | [_],_,_,_,_,_,_,e,_=>by rw [evD] at e; cases e
  | k::v::r,_,_,_,_,_,_,e,c =>
    evD_inv_k e fun z b es H1 H2 _ _ e3 hz hd=>cD_cons_k (P:=fun ks us=>DSh _ ks us) c fun x ks y us _ _ c3=>by
      have h:=d_shape e3 c3
      subst hd
      exact⟨⟨hz,h.nd⟩,congrArg (· + 1) h.l1,congrArg (· + 1) h.l2,h.al⟩
theorem d_all:∀ {es:List ME},AllEv S call d es→EvDS S call d es
  | [],_=>by
    intro l H H' ds e nm sl ks us s as T env A E Q pos ao c er hr q
    rw [evD] at e; cases e
    obtain⟨rfl,rfl⟩:=cD_nil c
    exact pairTrees_nil_walk (q _ [] s.heap s.toks as T (.refl ..) hr trivial .nil)
  | [_],_=>by
    intro l H H' ds e
    rw [evD] at e; cases e
  | k::v::r,hA=>by
    intro l H H' ds e nm sl ks us s as T env A E Q pos ao c er hr q
    refine evD_inv_k e fun z b es H1 H2 e1 e2 e3 hz hd=>?_
    subst hd
    refine cD_cons_k (P:=fun ks us=>wpAny (model S.prog S.w) A (evalPairs (pairTrees ks us env pos)) Q E s) c fun x ks y us cx cy c3=>?_
    refine pairTrees_cons_walk (hA.1 e1 ao cx er hr fun wk h1 tk1 as1 T1 x1 hr1 rk=>?_)
    refine hA.2.2.1 e2 ao cy (er.ext x1) hr1 fun wv h2 tk2 as2 T2 x2 hr2 rv=>?_
    refine d_all hA.2.2.2.2 e3 ao c3 (er.ext (x1.trans x2)) hr2 fun vs kvs h3 tk3 as3 T3 x3 hr3 hc hd=>?_
    refine strE_k rk fun t hw _=>?_
    subst hw
    exact q _ ((⟨z.toArray⟩,wv)::kvs) h3 tk3 as3 T3 ((x1.trans x2).trans x3) hr3 ⟨beq_self_eq_true _,rfl,hc⟩ (.cons (rv.mono x3.mono) hd)
theorem s_dict {es:List ME} (hA:AllEv S call d es):EvS S call d (.dict es):=by
  intro l H H' v e nm sl x s as T env A E Q ao c er hr q
  refine ev_dict_k e fun vs H1 e1 zq201=>?_
  subst zq201
  intro zq202
  subst zq202
  refine ch_dict_k c fun ks us p c15 cD=>?_
  have hD:s.heap.get? s.heap.objs.size=none:=none_big (Nat.le_refl _)
  have kp:=keep_push (h:=s.heap) { cls:=Value.type "dict",data:=Data.dict #[] }
  have x0:Ext Nil as T s.heap as T (s.heap.push { cls:=Value.type "dict",data:=Data.dict #[] }):=Ext.keep kp
  have hsh:=d_shape e1 cD
  have hf:=hr.fresh hD
  cases ks with
  | nil =>
    have hu:us=[]:=List.length_eq_zero_iff.mp hsh.l2.symm
    have hv:vs=[]:=List.length_eq_zero_iff.mp (hsh.l1.trans (congrArg List.length hu))
    subst hu; subst hv
    have e0:H1=H:=by
      cases es with
      | nil=>rw [evD] at e1; cases e1; rfl
      | cons k r=>cases r with
        | nil=>rw [evD] at e1; cases e1
        | cons v r=>exact cD_cons_k (P:=fun ks us=>ks=[]→H1=H) cD (fun _ _ _ _ _ _ _ h=>nomatch h) rfl
    subst e0
    refine wpAny_Dict_empty ?_
    have hd:(s.heap.push { cls:=Value.type "dict",data:=Data.dict #[] }).DictOf (strKind S.prog S.w) s.heap.objs.size []:=Heap.DictOf.new _
    have hr2:=(hr.keep kp).adoptO hf.1 hf.2 hr.size_big (o:=.dict []) (.dict hd (Nat.zero_le _) .nil)
    exact q _ _ s.toks _ _ (x0.adopt hD) hr2 (.loc (p:=(s.heap.objs.size,none)) (by rw [List.getElem?_append_right (by rw [hr.len]; exact Nat.le_refl _),hr.len,Nat.sub_self]; rfl))
  | cons k0 ks =>
    refine wpAny_Dict_walk (knd:=strKind S.prog S.w) hsh.al hsh.l2 (fun h=>nomatch h) (hsh.l2▸c15) (d_all hA e1 (s:={ s with heap:=s.heap.push { cls:=Value.type "dict",data:=Data.dict #[] } }) ao cD (er.ext x0) (hr.keep kp) fun ps kvs h1 tk as1 T1 x1 hr1 hc hd=>?_)
    have ho1:s.heap.objs.size ∉ owned as1:=fun h=>(x1.own _ h).elim hf.1 fun h=>by rw [Heap.get?_push_size] at h; cases h; rfl
    have hdd:h1.DictOf (strKind S.prog S.w) s.heap.objs.size []:=let ⟨o,es,ep,q,t⟩:=Heap.DictOf.new (knd:=strKind S.prog S.w) s.heap; ⟨o,es,ep,x1.kp _ o hf.1 (fun h=>h) q,t⟩
    refine⟨kvs,hc,hdd,fun h' hm hs=>?_⟩
    rw [merged_nil_of_nodup _ (hd.nd hsh.nd)] at hm
    have k:∀ b o,b≠s.heap.objs.size→h1.get? b=some o→h'.get? b=some o:=fun b o hb e=>(hs.2 b hb).trans e
    have hr2:=hr1.but k ho1 hf.2 (hr1.noT_dict hdd)
    have x2:Ext Nil as T s.heap (as1++[(s.heap.objs.size,none)]) T1 h':=((x0.trans x1).off k hD (fun h=>h)).adopt hD
    have m:Mono as1 T1 (as1++[(s.heap.objs.size,none)]) T1:=⟨fun n q e=>getElem?_append_some e,fun _ _ e=>e⟩
    have hr3:=hr2.adoptO ho1 hf.2 hr.size_big (o:=.dict vs) (.dict hm (by rw [hsh.l1]; exact Nat.le_trans c15 (by decide)) (hd.mono m))
    exact q _ _ _ _ _ x2 hr3 (.loc (p:=(s.heap.objs.size,none)) (by rw [List.getElem?_append_right (by rw [hr1.len]; exact Nat.le_refl _),hr1.len,Nat.sub_self]; rfl))
theorem t_of {e:ME} (h:EvS S call d e) (hp:∀ {G:Str→Option GV} {nm:Nms} {sl:Sl} {x:Expr} {env:Env} {whole:Sem Value},chE G e nm sl x=true→PySem.isTrue x env whole=(do let v ← whole; standAt x.pos; holding [v] (truthy v))):TrS S call d e:=by
  intro l H H' b e1 nm sl x s as T env A E Q ao c er hr q
  exact tr_of_ev (hp c) h e1 ao c er hr q
theorem l_all:∀ {es:List ME},AllEv S call d es→EvLS S call d es
  | [],_=>l_nil
  | _::_,h=>l_cons h.1 (l_all h.2.2)
mutual
theorem ok_E (C:Cx S) (ca:CallOk S call d):∀ e:ME,EvS S call d e∧TrS S call d e
  | .bad=>⟨s_bad,fun e=>nn e⟩
  | .lit v=>⟨s_lit,t_of s_lit fun c=>by refine ch_lit_k c ?_; intros; rfl⟩
  | .loc i=>⟨s_loc,t_of s_loc fun c=>by refine ch_loc_k c ?_; intros; rfl⟩
  | .glob v=>⟨s_glob C,t_of (s_glob C) fun c=>by refine ch_glob_k c ?_; intros; rfl⟩
  | .tup es=>⟨s_tup (l_all (ok_L C ca es)),t_of (s_tup (l_all (ok_L C ca es))) fun c=>by refine ch_tup_k c ?_; intros; rfl⟩
  | .lst es=>⟨s_lst (l_all (ok_L C ca es)),t_of (s_lst (l_all (ok_L C ca es))) fun c=>by refine ch_lst_k c ?_; intros; rfl⟩
  | .dict es=>⟨s_dict (ok_L C ca es),t_of (s_dict (ok_L C ca es)) fun c=>by refine ch_dict_k c ?_; intros; rfl⟩
  | .attr e a=>⟨s_attr C (ok_E C ca e).1,t_of (s_attr C (ok_E C ca e).1) fun c=>by refine ch_attr_k c ?_; intros; rfl⟩
  | .idx e i=>⟨s_idx (ok_E C ca e).1 (ok_E C ca i).1,t_of (s_idx (ok_E C ca e).1 (ok_E C ca i).1) fun c=>by refine ch_idx_k c ?_; intros; rfl⟩
  | .slice e lo hi st=>⟨s_slice (ok_E C ca e).1 (ok_E C ca lo).1 (ok_E C ca hi).1 (ok_E C ca st).1,t_of (s_slice (ok_E C ca e).1 (ok_E C ca lo).1 (ok_E C ca hi).1 (ok_E C ca st).1) fun c=>by refine ch_slice_k c ?_; intros; rfl⟩
  | .bin op a b=>⟨s_bin (ok_E C ca a).1 (ok_E C ca b).1,t_of (s_bin (ok_E C ca a).1 (ok_E C ca b).1) fun c=>by refine ch_bin_k c ?_; intros; rfl⟩
  | .neg a=>⟨s_neg (ok_E C ca a).1,t_of (s_neg (ok_E C ca a).1) fun c=>by refine ch_neg_k c ?_; intros; rfl⟩
  | .not a=>⟨s_not (ok_E C ca a).1,t_not (ok_E C ca a).2⟩
  | .cmp op a b=>⟨s_cmp (ok_E C ca a).1 (ok_E C ca b).1,t_cmp (ok_E C ca a).1 (ok_E C ca b).1⟩
  | .and es=>⟨s_and (ok_L C ca es),t_and (ok_L C ca es)⟩
  | .or es=>⟨s_or (ok_L C ca es),t_or (ok_L C ca es)⟩
  | .ife t a b=>⟨s_ife (ok_E C ca t).2 (ok_E C ca a).1 (ok_E C ca b).1,t_ife (ok_E C ca t).2 (ok_E C ca a).2 (ok_E C ca b).2⟩
  | .call f es=>⟨s_call C ca (ok_E C ca f).1 (l_all (ok_L C ca es)),t_of (s_call C ca (ok_E C ca f).1 (l_all (ok_L C ca es))) fun c=>by refine ch_call_k c ?_; intros; rfl⟩
  | .new k es=>⟨s_new C ca (l_all (ok_L C ca es)),t_of (s_new C ca (l_all (ok_L C ca es))) fun c=>by refine ch_new_k c ?_; intros; rfl⟩
  | .meth o m es=>⟨s_meth C ca (ok_E C ca o).1 (l_all (ok_L C ca es)),t_of (s_meth C ca (ok_E C ca o).1 (l_all (ok_L C ca es))) fun c=>by refine ch_meth_k c ?_; intros; rfl⟩
  | .bmeth o m es=>⟨s_bmeth (ok_E C ca o).1 (l_all (ok_L C ca es)),t_of (s_bmeth (ok_E C ca o).1 (l_all (ok_L C ca es))) fun c=>by refine ch_bmeth_k c ?_; intros; rfl⟩
  | .prim p es=>⟨s_prim C (l_all (ok_L C ca es)),t_of (s_prim C (l_all (ok_L C ca es))) fun c=>by refine ch_prim_k c ?_; intros; rfl⟩
  | .isin e k=>⟨s_isin C (ok_E C ca e).1,t_of (s_isin C (ok_E C ca e).1) fun c=>by refine ch_isin_k c ?_; intros; rfl⟩
  | .comp elt src t k cs=>⟨s_comp (ok_E C ca src).1 (ok_E C ca elt).1 (ok_L C ca cs),t_of (s_comp (ok_E C ca src).1 (ok_E C ca elt).1 (ok_L C ca cs)) fun c=>by refine ch_comp_k c ?_; intros; rfl⟩
theorem ok_L (C:Cx S) (ca:CallOk S call d):∀ es:List ME,AllEv S call d es
  | []=>trivial
  | e::r=>⟨(ok_E C ca e).1,(ok_E C ca e).2,ok_L C ca r⟩
end
mutual
theorem ok_T (C:Cx S) (ca:CallOk S call d):∀ t:Tg,AsS S call d t
  | .loc i=>a_loc
  | .attr o a=>a_attr C (ok_E C ca o).1
  | .idx o i=>a_idx (ok_E C ca o).1 (ok_E C ca i).1
  | .tup ts=>a_tup (ok_Ts C ca ts)
theorem ok_Ts (C:Cx S) (ca:CallOk S call d):∀ ts:List Tg,AsLS S call d ts
  | []=>a_nil
  | t::r=>a_cons (ok_T C ca t) (ok_Ts C ca r)
end
mutual
theorem ok_S (C:Cx S) (ca:CallOk S call d):∀ st:MS,StS S call d st
  | .bad=>t_bad
  | .expr e=>t_expr (ok_E C ca e).1
  | .ret e=>t_ret (ok_E C ca e).1
  | .asg t e=>st_asg (ok_T C ca t) (ok_E C ca e).1 fun elt src ct k cs _=>⟨(ok_E C ca src).1,(ok_E C ca elt).1,ok_L C ca cs⟩
  | .auga o a op e=>t_auga C (ok_E C ca o).1 (ok_E C ca e).1
  | .ife t b o=>st_ife (ok_E C ca t).2 (ok_B C ca b) (ok_B C ca o)
  | .whl t b=>st_whl (ok_E C ca t).2 (ok_B C ca b)
  | .for t e b=>st_for (ok_E C ca e).1 (ok_B C ca b)
  | .brk=>t_brk
  | .cont=>t_cont
theorem ok_B (C:Cx S) (ca:CallOk S call d):∀ b:List MS,BkS S call d b
  | []=>b_nil
  | st::r=>b_cons (ok_S C ca st) (ok_B C ca r)
end
theorem sound (C:Cx S) (d:Nat):CallOk S (callF S.P d) d:=call_ok C (fun _ ca b=>ok_B C ca b) d
end
end Mine
namespace Mine
noncomputable def tupIn (K:Frag) (a:Addr):Option (List Value):=match K.lookup a with
  | some o=>(match o.cls with
    | .type n=>(match o.data with | .seq us _=>bif n == "tuple" then some us.toList else none | _=>none)
    | _=>none)
  | none=>none
theorem tupIn_some_k {K:Frag} {a:Addr} {us:List Value} (h:tupIn K a=some us) {zg:Prop} (zk:∀ d,∀ n,∀ sl,(K.lookup a=some ⟨.type "tuple",d,.seq us.toArray n,sl⟩)→zg):zg:=by
  obtain⟨d,n,sl,zh1⟩:∃ d n sl,K.lookup a=some ⟨.type "tuple",d,.seq us.toArray n,sl⟩:=by
    unfold tupIn at h
    cases hk:K.lookup a with
    | none=>rw [hk] at h; exact nn h
    | some o =>
      rw [hk] at h
      obtain⟨c,d,da,sl⟩:=o
      dsimp only at h
      cases c with
      | type n=>cases da with
        | seq us' k =>
          have h:(bif n == "tuple" then some us'.toList else none)=some us:=h
          cases hn:n == "tuple" with
          | false=>rw [hn] at h; exact nn h
          | true=>rw [hn] at h; cases h; cases beq_iff_eq.mp hn; exact⟨d,k,sl,rfl⟩
        | _=>exact nn h
      | _=>exact nn h
  exact zk d n sl zh1
mutual
noncomputable def valOk (K:Frag):V→Value→Bool
  | .none,u=>(match u with | .none=>true | _=>false)
  | .bool b,u=>(match u with | .bool c=>b == c | _=>false)
  | .int i,u=>(match u with | .int j _=>i == j | _=>false)
  | .str s,u=>(match u with | .str x _=>s == x.cps.toList && decide (s.length≤1000) | _=>false)
  | .tup l,u=>(match u with
    | .ref a=>(match tupIn K a with | some us=>decide (l.length≤1000) && valsOk K l us | none=>false)
    | _=>false)
  | _,_=>false
noncomputable def valsOk (K:Frag):List V→List Value→Bool
  | [],us=>us.isEmpty
  | v::r,us=>(match us with | u::t=>valOk K v u && valsOk K r t | []=>false)
end
noncomputable def isMissing (r:Option (Option Value)):Bool:=match r with | some none=>true | _=>false
noncomputable def isRef (r:Option (Option Value)) (a:Nat):Bool:=match r with | some (some (.ref b))=>b == a | _=>false
noncomputable def glOk (K:Frag) (fa ca:List Nat) (x:Str) (g:GV):Bool:=match g with
  | .fn k=>(match fa[k]? with | some a=>isRef (nsIn K mainGlobals x) a | none=>false)
  | .val v=>(match nsIn K mainGlobals x with | some (some u)=>valOk K v u | _=>false)
  | .cls c=>(match ca[c]? with | some a=>isRef (nsIn K mainGlobals x) a && x == CLSN.getD c Str.empty | none=>false)
  | .pr _=>isMissing (nsIn K mainGlobals x)
  | .isi=>isMissing (nsIn K mainGlobals x) && x == Str.ofString "isinstance"
  | .typ _=>isMissing (nsIn K mainGlobals x)
noncomputable def lookG (x:Str):List (Str×GV)→Option GV
  | []=>none
  | (y,g)::r=>if x == y then some g else lookG x r
theorem lookG_2  {x y g r}:lookG x ((y,g)::r)=(if x == y then some g else lookG x r):=rfl
theorem lookG_mem {x:Str} {g:GV}:∀ {gl:List (Str×GV)},lookG x gl=some g→(x,g)∈gl
  | (y,h)::r,e=>by
    rw [lookG_2] at e
    split at e
    · rename_i hb; cases e; rw [beq_iff_eq.mp hb]; exact .head _
    · exact .tail _ (lookG_mem e)
noncomputable def isFnv (K:Frag) (r:Option (Option Value)) (fa:List Nat) (k:Nat):Bool:=match fa[k]? with
  | some a=>isRef r a && (match typeIn K (.ref a) with | some t=>t == .type "function" | none=>false)
  | none=>false
noncomputable def isB (r:Option (Option Value)) (id:String):Bool:=match r with | some (some (.builtin i))=>i == id | _=>false
noncomputable def isNone1:Option (Option Addr)→Bool
  | some none=>true
  | _=>false
noncomputable def clsOk (K:Frag) (fa:List Nat) (C:Nat) (ci:CI):Bool :=
  makesIn K C && isFnv K (findIn K (.ref C) "__init__") fa ci.init && isB (findIn K (.ref C) "__getattribute__") "object.__getattribute__" && isMissing (findIn K (.ref C) "__getattr__") && hasDictIn K C &&
  (List.range 22).all (fun i=>(match findIn K (.ref C) (nmOf i) with | some at'=>noGet K at' | none=>false) && (match takerIn K C (nmOf i) with | some none=>true | _=>false)) &&
  isB (findIn K (.ref C) "__setattr__") "object.__setattr__" && plainOver K C &&
  ci.meths.all (fun p=>isFnv K (findIn K (.ref C) (mmOf p.1)) fa p.2 && (List.range 22).all fun i=>!(nmOf i == mmOf p.1))
noncomputable def chkFns (G:Str→Option GV) (K:Frag):List FI→List Nat→Bool
  | [],_=>true
  | fi::r,a::t=>chK G K fi a && chkFns G K r t
  | _::_,[]=>false
theorem chkFns_1  {G K zu1}:chkFns G K ([]) zu1=(true):=rfl
theorem chkFns_2  {G K fi r a t}:chkFns G K (fi::r) (a::t)=(chK G K fi a && chkFns G K r t):=rfl
theorem chkFns_3  {G K zu1 zu2}:chkFns G K (zu1::zu2) ([])=(false):=rfl
theorem chkFns_at {G:Str→Option GV} {K:Frag}:∀ {fns:List FI} {fa:List Nat},chkFns G K fns fa=true→∀(k:Nat) (fi:FI),fns[k]? = some fi→∃ a:Nat,fa[k]? = some a∧chK G K fi a=true
  | [],_,_,k,fi,e=>by simp at e
  | _::_,[],h,_,_,_=>ff h
  | fi::r,a::t,h,k,fi',e=>by
    simp only [chkFns_1,chkFns_2,chkFns_3,Bool.and_eq_true] at h
    cases k with
    | zero=>simp at e; subst e; exact⟨a,rfl,h.1⟩
    | succ k=>obtain⟨b,h1,h2⟩:=chkFns_at h.2 k fi' (by simpa using e); exact⟨b,by simpa using h1,h2⟩
noncomputable def surOk (K:Frag) (fa ca:List Nat) (gl:List (Str×GV)) (cls:List CI):Bool :=
  gl.all (fun p=>glOk K fa ca p.1 p.2) && fa.all (fun a=>keepIn K (.ref a)) && ca.all (fun a=>keepIn K (.ref a)) && kitAll K ca &&
  (List.range 5).all fun c=>(match ca[c]?,cls[c]? with | some C,some ci=>clsOk K fa C ci | _,_=>false)
noncomputable def T0of (K:Frag) (p:Addr) (ws:List Value):TS:=fun a i=>(a=p∧i=.ro ws)∨∃ us d n sl,i=.tup us∧K.lookup a=some ⟨.type "tuple",d,.seq us.toArray n,sl⟩
mutual
theorem valOk_vr {fa:List Nat} {K:Frag} {p:Addr} {ws:List Value}:∀ {v:V} {u:Value},valOk K v u=true→VR fa [] (T0of K p ws) v u
  | .none,u,h=>by cases u with
    | none=>exact .none
    | _=>exact ff h
  | .bool b,u,h=>by cases u with
    | bool c=>rw [beq_iff_eq.mp h]; exact .bool _
    | _=>exact ff h
  | .int i,u,h=>by cases u with
    | int c t=>rw [beq_iff_eq.mp h]; exact .int _ _
    | _=>exact ff h
  | .str s,u,h=>by cases u with
    | str x t =>
      obtain⟨h1,h2⟩:=and2 (a:=s == x.cps.toList) (b:=decide (s.length≤1000)) h
      have:=beq_iff_eq.mp h1
      subst this
      exact .str x.cps.toList t (by have:=of_decide_eq_true h2; unfold lim; exact Nat.not_lt.mp (lin [_] (.c 1 (.v 0) (.n 1000) (.c 1 (.a (.n 1048576) (.n 1)) (.v 0) .z)) rfl this))
    | _=>exact ff h
  | .tup l,u,h=>by cases u with
    | ref a =>
      have h:(match tupIn K a with | some us=>decide (l.length≤1000) && valsOk K l us | none=>false)=true:=h
      cases hk:tupIn K a with
      | none=>rw [hk] at h; exact ff h
      | some us =>
        rw [hk] at h
        obtain⟨h1,h2⟩:=and2 (a:=decide (l.length≤1000)) (b:=valsOk K l us) h
        refine tupIn_some_k hk fun d n sl hk=>?_
        exact .tup (ws:=us) (.inr ⟨us,d,n,sl,rfl,hk⟩) (by have:=of_decide_eq_true h1; unfold lim; exact Nat.not_lt.mp (lin [_] (.c 1 (.v 0) (.n 1000) (.c 1 (.a (.n 1048576) (.n 1)) (.v 0) .z)) rfl this)) (valsOk_vr h2)
    | _=>exact ff h
  | .loc n,u,h=>ff h
  | .rng a b c,u,h=>ff h
  | .fn k,u,h=>ff h
  | .ro l,u,h=>ff h
theorem valsOk_vr {fa:List Nat} {K:Frag} {p:Addr} {ws:List Value}:∀ {l:List V} {us:List Value},valsOk K l us=true→VRs fa [] (T0of K p ws) l us
  | [],us,h=>by
    have:=List.isEmpty_iff.mp (show us.isEmpty=true from h)
    subst this; exact .nil
  | v::r,us,h=>by
    cases us with
    | nil=>exact ff h
    | cons u t =>
      obtain⟨h1,h2⟩:=and2 (a:=valOk K v u) (b:=valsOk K r t) h
      exact .cons (valOk_vr h1) (valsOk_vr h2)
end
theorem isRef_eq {r:Option (Option Value)} {a:Nat} (h:isRef r a=true):r=some (some (.ref a)):=by
  cases r with
  | none=>exact ff h
  | some r=>cases r with
    | none=>exact ff h
    | some v=>cases v with
      | ref b=>cases beq_iff_eq.mp (show(b == a)=true from h); rfl
      | _=>exact ff h
theorem isMissing_eq {r:Option (Option Value)} (h:isMissing r=true):r=some none:=by
  cases r with
  | none=>exact ff h
  | some r=>cases r with
    | none=>rfl
    | some v=>exact ff h
theorem isB_eq {r:Option (Option Value)} {id:String} (h:isB r id=true):r=some (some (.builtin id)):=by
  cases r with
  | none=>exact ff h
  | some r=>cases r with
    | none=>exact ff h
    | some v=>cases v with
      | builtin i=>cases beq_iff_eq.mp (show(i == id)=true from h); rfl
      | _=>exact ff h
theorem isFnv_eq {K:Frag} {r:Option (Option Value)} {fa:List Nat} {k:Nat} (h:isFnv K r fa k=true):∃ a,fa[k]? = some a∧r=some (some (.ref a))∧typeIn K (.ref a)=some (.type "function"):=by
  unfold isFnv at h
  split at h
  · rename_i a ha
    simp only [Bool.and_eq_true] at h
    refine⟨a,ha,isRef_eq h.1,?_⟩
    have:=h.2
    split at this
    · rename_i t ht; rw [ht,beq_iff_eq.mp this]
    · first | exact ff this | exact nn this | cases this
  · first | exact ff h | exact nn h | cases h
theorem lookN_mem {α:Type} {m:Nat} {v:α}:∀ {l:List (Nat×α)},lookN m l=some v→(m,v)∈l
  | (j,u)::r,h=>by
    rw [lookN_2] at h
    split at h
    · rename_i hb; cases h; rw [beq_iff_eq.mp hb]; exact .head _
    · exact .tail _ (lookN_mem h)
theorem cx_of {S:Sur} {gl:List (Str×GV)} {mg mb:Str→Option Value} {p:Addr} {ws:List Value} (hG:∀ x,S.G x=lookG x gl) (hT:S.T0=T0of S.K p ws) (X:S.K.In S.h0) (lm:S.h0.NoLimit) (g1:S.h0.Ns mainGlobals mg) (g2:S.h0.Ns builtinsNs mb)
    (g3:∀ x:Str,x≠"__name__"→mb x=bootBuiltins x) (c1:surOk S.K S.fa S.ca gl S.P.cls=true) (c2:chkFns S.G S.K S.P.fns S.fa=true):Cx S:=by
  unfold surOk at c1
  simp only [Bool.and_eq_true] at c1
  obtain⟨⟨⟨⟨d1,d2⟩,d3⟩,d4⟩,d5⟩:=c1
  have gk:∀ x g,S.G x=some g→glOk S.K S.fa S.ca x g=true:=fun x g e=>List.all_eq_true.mp d1 (x,g) (lookG_mem ((hG x).symm.trans e))
  refine⟨X,lm,⟨mg,mb,g1,g2,g3⟩,fun x k e=>?_,fun x v e=>?_,fun x c e=>?_,fun x q e=>?_,fun x e=>?_,fun x k e=>?_,chkFns_at c2,fun k a e=>?_,fun k a e=>?_,fun c C h5 e=>?_,d4⟩
  · have:=gk x _ e
    simp only [glOk] at this
    split at this
    · rename_i a ha; exact⟨a,ha,isRef_eq this⟩
    · first | exact ff this | exact nn this | cases this
  · have:=gk x _ e
    unfold glOk at this
    simp only at this
    split at this
    · rename_i u hu; exact⟨u,hu,hT▸valOk_vr this⟩
    · first | exact ff this | exact nn this | cases this
  · have:=gk x _ e
    unfold glOk at this
    simp only at this
    split at this
    · rename_i a ha
      simp only [Bool.and_eq_true] at this
      exact⟨a,ha,isRef_eq this.1,beq_iff_eq.mp this.2⟩
    · first | exact ff this | exact nn this | cases this
  · exact isMissing_eq (gk x _ e)
  · have:=gk x _ e
    simp only [glOk,Bool.and_eq_true] at this
    exact⟨isMissing_eq this.1,beq_iff_eq.mp this.2⟩
  · exact isMissing_eq (gk x _ e)
  · exact List.all_eq_true.mp d2 a (List.mem_of_getElem? e)
  · exact List.all_eq_true.mp d3 a (List.mem_of_getElem? e)
  · have:=List.all_eq_true.mp d5 c (List.mem_range.mpr h5)
    rw [e] at this
    split at this
    · rename_i C' ci hC' hci
      cases hC'
      refine⟨ci,hci,?_⟩
      unfold clsOk at this
      simp only [Bool.and_eq_true] at this
      obtain⟨⟨⟨⟨⟨⟨⟨⟨a1,a2⟩,a3⟩,a4⟩,a5⟩,a6⟩,a7⟩,a8⟩,a9⟩:=this
      refine⟨a1,isFnv_eq a2,⟨isB_eq a3,isMissing_eq a4⟩,a5,fun i hi=>?_,fun i hi=>?_,isB_eq a7,a8,fun m k hm=>?_,fun m k i hm hi=>?_⟩
      · have:=List.all_eq_true.mp a6 i (List.mem_range.mpr hi)
        simp only [Bool.and_eq_true] at this
        have:=this.1
        split at this
        · rename_i at' ha; exact⟨at',ha,this⟩
        · first | exact ff this | exact nn this | cases this
      · have:=List.all_eq_true.mp a6 i (List.mem_range.mpr hi)
        simp only [Bool.and_eq_true] at this
        have:=this.2
        split at this
        · assumption
        · first | exact ff this | exact nn this | cases this
      · have hmem:=lookN_mem hm
        have:=List.all_eq_true.mp a9 _ hmem
        simp only [Bool.and_eq_true] at this
        exact isFnv_eq this.1
      · have hmem:=lookN_mem hm
        have:=List.all_eq_true.mp a9 _ hmem
        simp only [Bool.and_eq_true] at this
        have:=List.all_eq_true.mp this.2 i (List.mem_range.mpr hi)
        simpa using this
    · first | exact ff this | exact nn this | cases this
theorem ints_vrs {fa:List Nat} {as:As} {T:TS}:∀ {ws:List Value} {ns:List Int},IntsAre ws ns→VRs fa as T (ns.map .int) ws
  | _,_,.nil=>.nil
  | _,_,.cons n t r=>.cons (.int n t) (ints_vrs r)
theorem entry {S:Sur} (C:Cx S) {p:Addr} {ws:List Value} {ns:List Int} {k d:Nat} {a:Addr} {H':Hp} {A:Around} {E Q:Value→Shared→Prop} {s:Shared} (hT:S.T0=T0of S.K p ws) (hs:s.heap=S.h0) (hL:S.h0.IsList p ws.toArray) (hI:IntsAre ws ns) (hz:ns.length≤lim) (ao:AOkC A d) (ha:S.fa[k]? = some a)
    (hc:callF S.P d k [.ro (ns.map .int)] [] = some (.bool true,H')) (q:∀ h' tk,(∀ b o,S.h0.get? b=some o→h'.get? b=some o)→Q (.bool true) { s with heap:=h',toks:=tk }):wpAny (model S.prog S.w) A (call (.ref a) [.ref p]) Q E s:=by
  have hr:HR S [] S.T0 [] s.heap:=by
    rw [hs]
    refine⟨fun _ _ e=>e,rfl,fun n o q e=>by simp at e,.nil,fun a h=>by simp [owned] at h,fun b i t=>?_,fun _ _ t=>t,fun b us t=>?_,?_,fun a h=>by simp [owned] at h⟩
    · rw [hT] at t
      rcases t with⟨rfl,rfl⟩ | ⟨us,d,n,sl,rfl,hk⟩
      · exact hL
      · exact⟨_,C.X _ _ hk,rfl,n,rfl⟩
    · rw [hT] at t
      rcases t with⟨rfl,_⟩ | ⟨us,d,n,sl,q,hk⟩
      · obtain⟨o,ho,_⟩:=hL; exact⟨o,ho⟩
      · first | exact ff q | exact nn q | cases q
    · obtain⟨mc,n,_⟩:=C.lim
      exact ns_alive n
  refine wpAny_call (sound C d hc ao ha hr (.cons (.ro (ws:=ws) (hT▸.inl ⟨rfl,rfl⟩) (by rw [List.length_map]; exact hz) (ints_vrs hI)) .nil) fun w h' tk as' T' x hr' vr=>?_)
  cases boolE vr
  exact q h' tk hr'.base
end Mine
namespace Mine
noncomputable def b_row_of:List MS:=[.asg (.tup [.loc 2,.loc 3]) (.tup [.lst [],.lst [.loc 0]]),.whl (.cmp .gt (.prim .len [.loc 3]) (.lit (.int 0))) [.asg (.loc 4) (.bmeth (.loc 3) .pop []),.ife (.cmp .eq (.idx (.loc 4) (.lit (.int 0))) (.loc 1)) [.expr (.bmeth (.loc 3) .extend [.lst [.idx (.loc 4) (.lit (.int 2)),.idx (.loc 4) (.lit (.int 1))]])] [.expr (.bmeth (.loc 2) .append [.loc 4])]],.ret (.loc 2)]
noncomputable def b_is_plain_text:List MS:=[.ret (.and [.cmp .eq (.idx (.loc 0) (.lit (.int 0))) (.lit (.str [99,104,97,114,115])),.isin (.idx (.loc 0) (.lit (.int 1))) .str])]
noncomputable def b_with_texts_joined:List MS:=[.asg (.loc 1) (.lst []),.for (.one 2) (.loc 0) [.ife (.call (.glob (.fn 1)) [.loc 2]) [.ife (.cmp .eq (.idx (.loc 2) (.lit (.int 1))) (.lit (.str []))) [.cont] [],.ife (.and [.cmp .gt (.prim .len [.loc 1]) (.lit (.int 0)),.call (.glob (.fn 1)) [.idx (.loc 1) (.bin .sub (.prim .len [.loc 1]) (.lit (.int 1)))]]) [.asg (.loc 2) (.tup [.lit (.str [99,104,97,114,115]),.bin .add (.idx (.bmeth (.loc 1) .pop []) (.lit (.int 1))) (.idx (.loc 2) (.lit (.int 1)))])] []] [],.expr (.bmeth (.loc 1) .append [.loc 2])],.ret (.loc 1)]
noncomputable def b_PatternCode_init:List MS:=[.asg (.attr (.loc 0) 0) (.lst [])]
noncomputable def b_PatternCode_emit:List MS:=[.expr (.bmeth (.attr (.loc 0) 0) .append [.loc 1]),.ret (.bin .sub (.prim .len [.attr (.loc 0) 0]) (.lit (.int 1)))]
noncomputable def b_PatternCode_put:List MS:=[.asg (.loc 2) (.lst [.tup [.glob (.str [112,117,116]),.loc 1]]),.whl (.cmp .gt (.prim .len [.loc 2]) (.lit (.int 0))) [.asg (.tup [.loc 3,.loc 4]) (.bmeth (.loc 2) .pop []),.ife (.cmp .eq (.loc 3) (.glob (.str [112,117,116]))) [.expr (.bmeth (.loc 2) .extend [.slice (.meth (.loc 0) 103 [.loc 4]) (.lit .none) (.lit .none) (.neg (.lit (.int 1)))])] [.ife (.cmp .eq (.loc 3) (.glob (.str [101,109,105,116]))) [.expr (.meth (.loc 0) 101 [.loc 4])] [.expr (.meth (.loc 0) 106 [.loc 3,.loc 4])]]]]
noncomputable def b_PatternCode_begun:List MS:=[.asg (.loc 2) (.idx (.loc 1) (.lit (.int 0))),.ife (.cmp .eq (.loc 2) (.lit (.str [99,97,116]))) [.ret (.comp (.tup [.glob (.str [112,117,116]),.loc 3]) (.call (.glob (.fn 2)) [.call (.glob (.fn 0)) [.loc 1,.lit (.str [99,97,116])]]) (.one 3) 1 [])] [],.ife (.cmp .eq (.loc 2) (.lit (.str [97,108,116]))) [.ret (.meth (.loc 0) 104 [.call (.glob (.fn 0)) [.loc 1,.lit (.str [97,108,116])]])] [],.ife (.cmp .eq (.loc 2) (.lit (.str [97,114,98,110,111]))) [.ret (.meth (.loc 0) 105 [.idx (.loc 1) (.lit (.int 1))])] [],.ife (.or [.cmp .eq (.loc 2) (.lit (.str [108,97,116,101,114])),.cmp .eq (.loc 2) (.lit (.str [110,111,119]))]) [.expr (.meth (.loc 0) 101 [.tup [.glob (.str [109,97,114,107])]]),.ret (.lst [.tup [.glob (.str [112,117,116]),.idx (.loc 1) (.lit (.int 1))],.tup [.glob (.str [101,109,105,116]),.tup [.ife (.cmp .eq (.loc 2) (.lit (.str [108,97,116,101,114]))) (.glob (.str [110,97,109,101])) (.glob (.str [115,101,116])),.idx (.loc 1) (.lit (.int 2))]]])] [],.ife (.cmp .isin (.loc 2) (.glob (.tup [.str [99,104,97,114,115],.str [108,101,110],.str [112,111,115],.str [114,112,111,115],.str [116,97,98],.str [114,116,97,98],.str [97,110,121],.str [110,111,116,97,110,121],.str [115,112,97,110],.str [98,114,101,97,107],.str [114,101,109]]))) [.expr (.meth (.loc 0) 101 [.tup [.glob (.str [111,110,101]),.loc 2,.ife (.cmp .gt (.prim .len [.loc 1]) (.lit (.int 1))) (.idx (.loc 1) (.lit (.int 1))) (.lit (.none))]])] [.ife (.or [.cmp .eq (.loc 2) (.lit (.str [97,114,98])),.cmp .eq (.loc 2) (.lit (.str [98,97,108]))]) [.expr (.meth (.loc 0) 101 [.tup [.glob (.str [119,97,121,115]),.loc 2]])] [.expr (.meth (.loc 0) 101 [.ife (.cmp .isin (.loc 2) (.glob (.tup [.str [102,101,110,99,101],.str [102,97,105,108],.str [97,98,111,114,116],.str [115,117,99,99,101,101,100]]))) (.tup [.loc 2]) (.tup [.ife (.cmp .eq (.loc 2) (.lit (.str [99,117,114,115,111,114]))) (.glob (.str [112,108,97,99,101])) (.glob (.str [97,115,107])),.idx (.loc 1) (.lit (.int 1))])])]],.ret (.lst [])]
noncomputable def b_PatternCode_choice:List MS:=[.asg (.tup [.loc 2,.loc 3]) (.tup [.lst [],.lst [.neg (.lit (.int 1)),.lst []]]),.for (.one 4) (.slice (.loc 1) (.lit .none) (.bin .sub (.prim .len [.loc 1]) (.lit (.int 1))) (.lit .none)) [.expr (.bmeth (.loc 2) .extend [.lst [.tup [.glob (.str [111,112,101,110]),.loc 3],.tup [.glob (.str [112,117,116]),.loc 4],.tup [.glob (.str [115,104,117,116]),.loc 3]]])],.ret (.bin .add (.loc 2) (.lst [.tup [.glob (.str [112,117,116]),.idx (.loc 1) (.bin .sub (.prim .len [.loc 1]) (.lit (.int 1)))],.tup [.glob (.str [109,101,101,116]),.loc 3]]))]
noncomputable def b_PatternCode_repeat:List MS:=[.asg (.loc 2) (.meth (.loc 0) 101 [.lit (.none)]),.asg (.loc 3) (.meth (.loc 0) 101 [.lit (.none)]),.asg (.idx (.attr (.loc 0) 0) (.loc 2)) (.tup [.glob (.str [115,112,108,105,116]),.prim .len [.attr (.loc 0) 0]]),.expr (.meth (.loc 0) 101 [.tup [.glob (.str [109,97,114,107])]]),.ret (.lst [.tup [.glob (.str [112,117,116]),.loc 1],.tup [.glob (.str [101,109,105,116]),.tup [.glob (.str [103,97,105,110])]],.tup [.glob (.str [101,109,105,116]),.tup [.glob (.str [106,117,109,112]),.loc 2]],.tup [.glob (.str [109,101,101,116]),.lst [.loc 2,.lst [.loc 3]]]])]
noncomputable def b_PatternCode_bound:List MS:=[.ife (.cmp .eq (.loc 1) (.glob (.str [111,112,101,110]))) [.asg (.idx (.loc 2) (.lit (.int 0))) (.meth (.loc 0) 101 [.lit (.none)])] [.ife (.cmp .eq (.loc 1) (.glob (.str [115,104,117,116]))) [.expr (.bmeth (.idx (.loc 2) (.lit (.int 1))) .append [.meth (.loc 0) 101 [.lit (.none)]]),.asg (.idx (.attr (.loc 0) 0) (.idx (.loc 2) (.lit (.int 0)))) (.tup [.glob (.str [115,112,108,105,116]),.prim .len [.attr (.loc 0) 0]])] [.for (.one 3) (.idx (.loc 2) (.lit (.int 1))) [.asg (.idx (.attr (.loc 0) 0) (.loc 3)) (.tup [.glob (.str [106,117,109,112]),.prim .len [.attr (.loc 0) 0]])]]]]
noncomputable def b_straightened:List MS:=[.asg (.loc 1) (.lst []),.for (.one 2) (.loc 0) [.ife (.cmp .isin (.idx (.loc 2) (.lit (.int 0))) (.tup [.glob (.str [106,117,109,112]),.glob (.str [115,112,108,105,116])])) [.asg (.loc 3) (.idx (.loc 2) (.lit (.int 1))),.whl (.cmp .eq (.idx (.idx (.loc 0) (.loc 3)) (.lit (.int 0))) (.glob (.str [106,117,109,112]))) [.asg (.loc 3) (.idx (.idx (.loc 0) (.loc 3)) (.lit (.int 1)))],.asg (.loc 2) (.tup [.idx (.loc 2) (.lit (.int 0)),.loc 3])] [],.expr (.bmeth (.loc 1) .append [.loc 2])],.ret (.loc 1)]
noncomputable def b_compile_pattern:List MS:=[.asg (.loc 1) (.new 0 []),.expr (.meth (.loc 1) 102 [.loc 0]),.expr (.meth (.loc 1) 101 [.tup [.glob (.str [100,111,110,101])]]),.ret (.call (.glob (.fn 10)) [.attr (.loc 1) 0])]
noncomputable def b_SnobolError_init:List MS:=[.bad]
noncomputable def b_Pattern_init:List MS:=[.bad]
noncomputable def b_Delayed_init:List MS:=[.bad]
noncomputable def b_NameRef_init:List MS:=[.asg (.attr (.loc 0) 15) (.loc 1),.asg (.attr (.loc 0) 16) (.loc 2),.asg (.attr (.loc 0) 17) (.loc 3)]
noncomputable def b_is_fail:List MS:=[.ret (.isin (.loc 0) (.cls 5))]
noncomputable def b_fits:List MS:=[.bad]
noncomputable def b_whole_of_text:List MS:=[.bad]
noncomputable def b_text_of_whole:List MS:=[.bad]
noncomputable def b_to_whole:List MS:=[.bad]
noncomputable def b_to_text:List MS:=[.ife (.isin (.loc 0) .str) [.ret (.loc 0)] [],.ret (.ife (.isin (.loc 0) .int) (.call (.glob (.fn 19)) [.loc 0]) (.lit (.none)))]
noncomputable def b_need_text:List MS:=[.bad]
noncomputable def b_plain_count:List MS:=[.bad]
noncomputable def b_plain_signs:List MS:=[.bad]
noncomputable def b_pattern_of:List MS:=[.ife (.isin (.loc 0) (.cls 6)) [.ret (.attr (.loc 0) 18)] [],.ife (.isin (.loc 0) (.cls 7)) [.ret (.tup [.lit (.str [100,101,108,97,121]),.attr (.loc 0) 19])] [],.asg (.loc 1) (.call (.glob (.fn 21)) [.loc 0]),.ife (.cmp .is (.loc 1) (.lit (.none))) [.bad] [],.ret (.tup [.lit (.str [99,104,97,114,115]),.loc 1])]
noncomputable def b_is_delayed:List MS:=[.ret (.isin (.loc 0) .tuple)]
noncomputable def b_settled:List MS:=[.ife (.or [.and [.cmp .notin (.idx (.loc 0) (.lit (.int 0))) (.glob (.tup [.str [108,101,110],.str [112,111,115],.str [114,112,111,115],.str [116,97,98],.str [114,116,97,98]])),.cmp .notin (.idx (.loc 0) (.lit (.int 0))) (.glob (.tup [.str [97,110,121],.str [110,111,116,97,110,121],.str [115,112,97,110],.str [98,114,101,97,107]]))],.not (.call (.glob (.fn 26)) [.idx (.loc 0) (.lit (.int 1))])]) [.ret (.loc 0)] [],.asg (.loc 2) (.meth (.loc 1) 116 [.idx (.idx (.loc 0) (.lit (.int 1))) (.lit (.int 1))]),.ife (.call (.glob (.fn 16)) [.loc 2]) [.ret (.lit (.none))] [],.ife (.cmp .isin (.idx (.loc 0) (.lit (.int 0))) (.glob (.tup [.str [108,101,110],.str [112,111,115],.str [114,112,111,115],.str [116,97,98],.str [114,116,97,98]]))) [.ret (.tup [.idx (.loc 0) (.lit (.int 0)),.call (.glob (.fn 23)) [.loc 2,.idx (.loc 0) (.lit (.int 0)),.attr (.loc 1) 12]])] [],.ret (.tup [.idx (.loc 0) (.lit (.int 0)),.call (.glob (.fn 24)) [.loc 2,.idx (.loc 0) (.lit (.int 0))]])]
noncomputable def b_chars_end:List MS:=[.asg (.loc 3) (.bin .add (.loc 1) (.prim .len [.loc 2])),.ret (.ife (.cmp .eq (.slice (.loc 0) (.loc 1) (.loc 3) (.lit .none)) (.loc 2)) (.loc 3) (.lit (.none)))]
noncomputable def b_len_end:List MS:=[.ret (.ife (.cmp .le (.bin .add (.loc 1) (.loc 2)) (.prim .len [.loc 0])) (.bin .add (.loc 1) (.loc 2)) (.lit (.none)))]
noncomputable def b_pos_end:List MS:=[.bad]
noncomputable def b_rpos_end:List MS:=[.ret (.ife (.cmp .eq (.bin .sub (.prim .len [.loc 0]) (.loc 1)) (.loc 2)) (.loc 1) (.lit (.none)))]
noncomputable def b_tab_end:List MS:=[.bad]
noncomputable def b_rtab_end:List MS:=[.bad]
noncomputable def b_rem_end:List MS:=[.bad]
noncomputable def b_any_at:List MS:=[.bad]
noncomputable def b_notany_at:List MS:=[.bad]
noncomputable def b_run_end:List MS:=[.bad]
noncomputable def b_span_end:List MS:=[.bad]
noncomputable def b_break_end:List MS:=[.bad]
noncomputable def b_arb_ends:List MS:=[.ret (.prim .list [.prim .range [.loc 1,.bin .add (.prim .len [.loc 0]) (.lit (.int 1))]])]
noncomputable def b_bal_end:List MS:=[.bad]
noncomputable def b_bal_ends:List MS:=[.bad]
noncomputable def b_one_end:List MS:=[.ife (.cmp .eq (.loc 0) (.lit (.str [99,104,97,114,115]))) [.ret (.call (.glob (.fn 28)) [.loc 1,.loc 2,.loc 3])] [],.ife (.cmp .eq (.loc 0) (.lit (.str [108,101,110]))) [.ret (.call (.glob (.fn 29)) [.loc 1,.loc 2,.loc 3])] [],.ife (.cmp .eq (.loc 0) (.lit (.str [112,111,115]))) [.ret (.call (.glob (.fn 30)) [.loc 2,.loc 3])] [],.ife (.cmp .eq (.loc 0) (.lit (.str [114,112,111,115]))) [.ret (.call (.glob (.fn 31)) [.loc 1,.loc 2,.loc 3])] [],.ife (.cmp .eq (.loc 0) (.lit (.str [116,97,98]))) [.ret (.call (.glob (.fn 32)) [.loc 1,.loc 2,.loc 3])] [],.ife (.cmp .eq (.loc 0) (.lit (.str [114,116,97,98]))) [.ret (.call (.glob (.fn 33)) [.loc 1,.loc 2,.loc 3])] [],.ife (.cmp .eq (.loc 0) (.lit (.str [97,110,121]))) [.ret (.call (.glob (.fn 35)) [.loc 1,.loc 2,.loc 3])] [],.ife (.cmp .eq (.loc 0) (.lit (.str [110,111,116,97,110,121]))) [.ret (.call (.glob (.fn 36)) [.loc 1,.loc 2,.loc 3])] [],.ife (.cmp .eq (.loc 0) (.lit (.str [115,112,97,110]))) [.ret (.call (.glob (.fn 38)) [.loc 1,.loc 2,.loc 3])] [],.ret (.call (.glob (.fn 39)) [.loc 1,.loc 2,.loc 3])]
noncomputable def b_plain_end:List MS:=[.ret (.ife (.cmp .eq (.idx (.loc 0) (.lit (.int 0))) (.lit (.str [114,101,109]))) (.call (.glob (.fn 34)) [.loc 1]) (.call (.glob (.fn 43)) [.idx (.loc 0) (.lit (.int 0)),.loc 1,.loc 2,.idx (.loc 0) (.lit (.int 1))]))]
noncomputable def b_ends_of:List MS:=[.ife (.cmp .eq (.loc 0) (.lit (.str [97,114,98]))) [.ret (.call (.glob (.fn 40)) [.loc 1,.loc 2])] [],.ife (.cmp .eq (.loc 0) (.lit (.str [98,97,108]))) [.ret (.call (.glob (.fn 42)) [.loc 1,.loc 2])] [],.ife (.cmp .eq (.loc 0) (.lit (.str [114,101,109]))) [.ret (.lst [.call (.glob (.fn 34)) [.loc 1]])] [],.asg (.loc 4) (.call (.glob (.fn 43)) [.loc 0,.loc 1,.loc 2,.loc 3]),.ret (.ife (.cmp .is (.loc 4) (.lit (.none))) (.lst []) (.lst [.loc 4]))]
noncomputable def b_Way_init:List MS:=[.asg (.attr (.loc 0) 0) (.loc 1),.asg (.attr (.loc 0) 1) (.loc 2),.asg (.attr (.loc 0) 2) (.loc 3),.asg (.attr (.loc 0) 3) (.loc 4),.asg (.attr (.loc 0) 4) (.loc 5),.asg (.attr (.loc 0) 5) (.loc 6)]
noncomputable def b_Way_copied:List MS:=[.ret (.new 2 [.attr (.loc 0) 0,.loc 1,.attr (.loc 0) 2,.attr (.loc 0) 3,.attr (.loc 0) 4,.attr (.loc 0) 5])]
noncomputable def b_Match_init:List MS:=[.asg (.attr (.loc 0) 6) (.loc 1),.asg (.attr (.loc 0) 7) (.loc 2),.asg (.attr (.loc 0) 8) (.lst [])]
noncomputable def b_Match_run:List MS:=[.asg (.loc 3) (.new 2 [.loc 1,.lit (.int 0),.loc 2,.lit (.none),.lit (.none),.lit (.none)]),.whl (.cmp .isnot (.loc 3) (.lit (.none))) [.expr (.meth (.attr (.loc 0) 7) 118 []),.asg (.loc 4) (.idx (.attr (.loc 3) 0) (.attr (.loc 3) 1)),.ife (.and [.cmp .eq (.idx (.loc 4) (.lit (.int 0))) (.glob (.str [100,111,110,101])),.cmp .is (.attr (.loc 3) 5) (.lit (.none))]) [.ret (.tup [.glob (.int 0),.loc 3])] [],.ife (.cmp .eq (.idx (.loc 4) (.lit (.int 0))) (.glob (.str [97,98,111,114,116]))) [.ret (.tup [.glob (.int 2),.lit (.none)])] [],.ife (.not (.meth (.loc 0) 110 [.loc 4,.loc 3])) [.asg (.loc 3) (.meth (.loc 0) 109 []),.ife (.and [.cmp .isnot (.loc 3) (.lit (.none)),.cmp .is (.attr (.loc 3) 0) (.lit (.none))]) [.ret (.tup [.glob (.int 2),.lit (.none)])] []] []],.ret (.tup [.glob (.int 1),.lit (.none)])]
noncomputable def b_Match_way_back:List MS:=[.ret (.ife (.cmp .gt (.prim .len [.attr (.loc 0) 8]) (.lit (.int 0))) (.bmeth (.attr (.loc 0) 8) .pop []) (.lit (.none)))]
noncomputable def b_Match_done:List MS:=[.asg (.loc 3) (.idx (.loc 1) (.lit (.int 0))),.ife (.cmp .eq (.loc 3) (.glob (.str [111,110,101]))) [.ret (.meth (.loc 0) 111 [.loc 1,.loc 2])] [],.ife (.cmp .eq (.loc 3) (.glob (.str [115,112,108,105,116]))) [.expr (.bmeth (.attr (.loc 0) 8) .append [.meth (.loc 2) 107 [.idx (.loc 1) (.lit (.int 1))]])] [.ife (.cmp .eq (.loc 3) (.glob (.str [106,117,109,112]))) [.asg (.attr (.loc 2) 1) (.idx (.loc 1) (.lit (.int 1))),.ret (.lit (.bool true))] [.ife (.cmp .eq (.loc 3) (.glob (.str [109,97,114,107]))) [.asg (.attr (.loc 2) 4) (.tup [.attr (.loc 2) 4,.attr (.loc 2) 2])] [.ife (.cmp .isin (.loc 3) (.tup [.glob (.str [110,97,109,101]),.glob (.str [115,101,116]),.glob (.str [103,97,105,110])])) [.ife (.not (.meth (.loc 0) 112 [.loc 1,.loc 2])) [.ret (.lit (.bool false))] []] [.ife (.cmp .eq (.loc 3) (.glob (.str [112,108,97,99,101]))) [.ife (.not (.meth (.attr (.loc 0) 7) 117 [.idx (.loc 1) (.lit (.int 1)),.attr (.loc 2) 2])) [.ret (.lit (.bool false))] []] [.ret (.meth (.loc 0) 113 [.loc 1,.loc 2])]]]]],.auga (.loc 2) 1 .add (.lit (.int 1)),.ret (.lit (.bool true))]
noncomputable def b_Match_met_once:List MS:=[.asg (.loc 3) (.idx (.loc 1) (.lit (.int 2))),.ife (.isin (.loc 3) .tuple) [.asg (.loc 4) (.call (.glob (.fn 27)) [.tup [.idx (.loc 1) (.lit (.int 1)),.loc 3],.attr (.loc 0) 7]),.ife (.cmp .is (.loc 4) (.lit (.none))) [.ret (.lit (.bool false))] [],.asg (.loc 3) (.idx (.loc 4) (.lit (.int 1)))] [],.asg (.loc 5) (.call (.glob (.fn 44)) [.tup [.idx (.loc 1) (.lit (.int 1)),.loc 3],.attr (.loc 0) 6,.attr (.loc 2) 2]),.ife (.cmp .is (.loc 5) (.lit (.none))) [.ret (.lit (.bool false))] [],.asg (.attr (.loc 2) 2) (.loc 5),.auga (.loc 2) 1 .add (.lit (.int 1)),.ret (.lit (.bool true))]
noncomputable def b_Match_ended:List MS:=[.asg (.tup [.loc 3,.loc 4]) (.attr (.loc 2) 4),.asg (.attr (.loc 2) 4) (.loc 3),.asg (.loc 5) (.slice (.attr (.loc 0) 6) (.loc 4) (.attr (.loc 2) 2) (.lit .none)),.ife (.cmp .eq (.idx (.loc 1) (.lit (.int 0))) (.glob (.str [103,97,105,110]))) [.ret (.cmp .gt (.attr (.loc 2) 2) (.loc 4))] [],.ife (.cmp .eq (.idx (.loc 1) (.lit (.int 0))) (.glob (.str [115,101,116]))) [.ret (.meth (.attr (.loc 0) 7) 117 [.idx (.loc 1) (.lit (.int 1)),.loc 5])] [],.asg (.attr (.loc 2) 3) (.tup [.attr (.loc 2) 3,.tup [.idx (.loc 1) (.lit (.int 1)),.loc 5]]),.ret (.lit (.bool true))]
noncomputable def b_Match_other:List MS:=[.asg (.loc 3) (.idx (.loc 1) (.lit (.int 0))),.ife (.cmp .eq (.loc 3) (.glob (.str [102,97,105,108]))) [.ret (.lit (.bool false))] [],.ife (.cmp .eq (.loc 3) (.glob (.str [119,97,121,115]))) [.ret (.meth (.loc 0) 114 [.loc 2,.call (.glob (.fn 45)) [.idx (.loc 1) (.lit (.int 1)),.attr (.loc 0) 6,.attr (.loc 2) 2,.lit (.none)]])] [],.ife (.cmp .eq (.loc 3) (.glob (.str [97,115,107]))) [.ret (.meth (.loc 0) 115 [.idx (.loc 1) (.lit (.int 1)),.loc 2])] [],.ife (.cmp .eq (.loc 3) (.glob (.str [100,111,110,101]))) [.asg (.tup [.attr (.loc 2) 5,.tup [.attr (.loc 2) 0,.attr (.loc 2) 1]]) (.attr (.loc 2) 5),.ret (.lit (.bool true))] [],.ife (.cmp .eq (.loc 3) (.glob (.str [102,101,110,99,101]))) [.expr (.bmeth (.attr (.loc 0) 8) .append [.new 2 [.lit (.none),.lit (.int 0),.lit (.int 0),.lit (.none),.lit (.none),.lit (.none)]])] [.ife (.cmp .eq (.loc 3) (.glob (.str [115,117,99,99,101,101,100]))) [.expr (.bmeth (.attr (.loc 0) 8) .append [.meth (.loc 2) 107 [.attr (.loc 2) 1]])] []],.auga (.loc 2) 1 .add (.lit (.int 1)),.ret (.lit (.bool true))]
noncomputable def b_Match_met_often:List MS:=[.ife (.cmp .eq (.prim .len [.loc 2]) (.lit (.int 0))) [.ret (.lit (.bool false))] [],.auga (.loc 1) 1 .add (.lit (.int 1)),.for (.one 3) (.slice (.loc 2) (.lit .none) (.lit (.int 0)) (.neg (.lit (.int 1)))) [.asg (.loc 4) (.meth (.loc 1) 107 [.attr (.loc 1) 1]),.asg (.attr (.loc 4) 2) (.loc 3),.expr (.bmeth (.attr (.loc 0) 8) .append [.loc 4])],.asg (.attr (.loc 1) 2) (.idx (.loc 2) (.lit (.int 0))),.ret (.lit (.bool true))]
noncomputable def b_Match_asked:List MS:=[.asg (.loc 3) (.meth (.attr (.loc 0) 7) 116 [.loc 1]),.ife (.call (.glob (.fn 16)) [.loc 3]) [.ret (.lit (.bool false))] [],.asg (.attr (.loc 2) 5) (.tup [.attr (.loc 2) 5,.tup [.attr (.loc 2) 0,.bin .add (.attr (.loc 2) 1) (.lit (.int 1))]]),.asg (.tup [.attr (.loc 2) 0,.attr (.loc 2) 1]) (.tup [.call (.glob (.fn 11)) [.call (.glob (.fn 25)) [.loc 3]],.lit (.int 0)]),.ret (.lit (.bool true))]
noncomputable def b_named_rows:List MS:=[.asg (.loc 1) (.lst []),.whl (.cmp .isnot (.loc 0) (.lit (.none))) [.asg (.tup [.loc 0,.loc 2]) (.loc 0),.expr (.bmeth (.loc 1) .append [.loc 2])],.expr (.bmeth (.loc 1) .reverse []),.ret (.loc 1)]
noncomputable def b_match_orders:List MS:=[.for (.one 4) (.prim .range [.ife (.loc 2) (.lit (.int 1)) (.bin .add (.prim .len [.loc 1]) (.lit (.int 1)))]) [.asg (.tup [.loc 5,.loc 6]) (.meth (.new 3 [.loc 1,.loc 3]) 108 [.loc 0,.loc 4]),.ife (.cmp .eq (.loc 5) (.glob (.int 0))) [.ret (.tup [.loc 4,.attr (.loc 6) 2,.call (.glob (.fn 57)) [.attr (.loc 6) 3]])] [],.ife (.cmp .eq (.loc 5) (.glob (.int 2))) [.ret (.lit (.none))] []],.ret (.lit (.none))]
noncomputable def b_match_compiled:List MS:=[.ret (.call (.glob (.fn 58)) [.call (.glob (.fn 11)) [.loc 0],.loc 1,.loc 2,.loc 3])]
noncomputable def b_PlainHost_init:List MS:=[.asg (.attr (.loc 0) 9) (.loc 1),.asg (.attr (.loc 0) 10) (.loc 2),.asg (.attr (.loc 0) 11) (.loc 3),.asg (.attr (.loc 0) 12) (.lit (.int 64)),.asg (.attr (.loc 0) 13) (.lit (.int 0)),.asg (.attr (.loc 0) 14) (.lst [])]
noncomputable def b_PlainHost_value_of:List MS:=[.ife (.cmp .eq (.idx (.loc 1) (.lit (.int 0))) (.lit (.str [110,97,109,101]))) [.ret (.bmeth (.attr (.loc 0) 9) .get [.idx (.loc 1) (.lit (.int 1)),.lit (.str [])])] [],.ret (.ife (.cmp .eq (.idx (.loc 1) (.lit (.int 0))) (.lit (.str [102,97,105,108,115]))) (.bad) (.idx (.loc 1) (.lit (.int 1))))]
noncomputable def b_PlainHost_assign:List MS:=[.ife (.cmp .isin (.attr (.loc 1) 17) (.attr (.loc 0) 11)) [.ret (.lit (.bool false))] [],.asg (.idx (.attr (.loc 0) 9) (.attr (.loc 1) 17)) (.loc 2),.expr (.bmeth (.attr (.loc 0) 14) .append [.tup [.attr (.loc 1) 17,.loc 2]]),.ret (.lit (.bool true))]
noncomputable def b_PlainHost_step:List MS:=[.auga (.loc 0) 13 .add (.lit (.int 1)),.ife (.cmp .gt (.attr (.loc 0) 13) (.attr (.loc 0) 10)) [.bad] []]
noncomputable def b_match_plain:List MS:=[.for (.one 4) (.prim .range [.ife (.loc 2) (.lit (.int 1)) (.bin .add (.prim .len [.loc 1]) (.lit (.int 1)))]) [.asg (.loc 5) (.call (.glob (.fn 65)) [.loc 0,.loc 1,.loc 4,.loc 3]),.ife (.cmp .isnot (.loc 5) (.lit (.none))) [.ret (.ife (.cmp .eq (.loc 5) (.glob (.str [108,111,115,116]))) (.lit (.none)) (.loc 5))] []],.ret (.lit (.none))]
noncomputable def b_match_at:List MS:=[.asg (.loc 4) (.call (.glob (.fn 66)) [.loc 0,.loc 1,.loc 2,.loc 3]),.ret (.ife (.or [.cmp .is (.loc 4) (.lit (.none)),.cmp .eq (.loc 4) (.glob (.str [108,111,115,116]))]) (.loc 4) (.tup [.loc 2,.idx (.loc 4) (.lit (.int 0)),.idx (.loc 4) (.lit (.int 1))]))]
noncomputable def b_tried:List MS:=[.asg (.loc 4) (.lst [.tup [.tup [.loc 0,.lit (.none)],.loc 2,.tup []]]),.whl (.cmp .gt (.prim .len [.loc 4]) (.lit (.int 0))) [.asg (.loc 5) (.bmeth (.loc 4) .pop []),.ife (.cmp .is (.loc 5) (.lit (.none))) [.ret (.glob (.str [108,111,115,116]))] [],.asg (.tup [.loc 6,.loc 7,.loc 8]) (.loc 5),.whl (.cmp .isnot (.loc 6) (.lit (.none))) [.expr (.meth (.loc 3) 118 []),.asg (.loc 5) (.call (.glob (.fn 67)) [.loc 6,.loc 7,.loc 8,.loc 1,.loc 4,.loc 3]),.ife (.cmp .is (.loc 5) (.lit (.none))) [.brk] [],.ife (.cmp .eq (.loc 5) (.glob (.str [108,111,115,116]))) [.ret (.glob (.str [108,111,115,116]))] [],.asg (.tup [.loc 6,.loc 7,.loc 8]) (.loc 5)],.ife (.cmp .is (.loc 6) (.lit (.none))) [.ret (.tup [.loc 7,.prim .list [.loc 8]])] []],.ret (.lit (.none))]
noncomputable def b_advanced:List MS:=[.asg (.tup [.loc 6,.loc 7]) (.loc 0),.asg (.loc 8) (.idx (.loc 6) (.lit (.int 0))),.ife (.cmp .isin (.loc 8) (.tup [.lit (.str [99,97,116]),.lit (.str [97,108,116]),.lit (.str [97,114,98,110,111]),.lit (.str [108,97,116,101,114]),.lit (.str [110,111,119])])) [.ret (.call (.glob (.fn 68)) [.loc 6,.loc 7,.loc 1,.loc 2,.loc 4])] [],.ife (.cmp .eq (.slice (.loc 8) (.lit .none) (.lit (.int 4)) (.lit .none)) (.lit (.str [101,110,100,32]))) [.ret (.call (.glob (.fn 69)) [.loc 6,.loc 7,.loc 1,.loc 2,.loc 3,.loc 4,.loc 5])] [],.ife (.cmp .eq (.loc 8) (.lit (.str [99,117,114,115,111,114]))) [.ret (.ife (.meth (.loc 5) 117 [.idx (.loc 6) (.lit (.int 1)),.loc 1]) (.tup [.loc 7,.loc 1,.loc 2]) (.lit (.none)))] [],.ife (.cmp .eq (.loc 8) (.lit (.str [100,101,108,97,121]))) [.asg (.loc 9) (.meth (.loc 5) 116 [.idx (.loc 6) (.lit (.int 1))]),.ret (.ife (.call (.glob (.fn 16)) [.loc 9]) (.lit (.none)) (.tup [.tup [.call (.glob (.fn 25)) [.loc 9],.loc 7],.loc 1,.loc 2]))] [],.ife (.cmp .isin (.loc 8) (.tup [.lit (.str [102,101,110,99,101]),.lit (.str [97,98,111,114,116]),.lit (.str [102,97,105,108]),.lit (.str [115,117,99,99,101,101,100])])) [.ret (.call (.glob (.fn 70)) [.loc 0,.loc 1,.loc 2,.loc 4])] [],.ret (.call (.glob (.fn 71)) [.loc 6,.loc 7,.loc 1,.loc 2,.loc 3,.loc 4,.loc 5])]
noncomputable def b_led_in:List MS:=[.asg (.loc 5) (.idx (.loc 0) (.lit (.int 0))),.ife (.cmp .eq (.loc 5) (.lit (.str [99,97,116]))) [.ret (.tup [.tup [.idx (.loc 0) (.lit (.int 1)),.tup [.idx (.loc 0) (.lit (.int 2)),.loc 1]],.loc 2,.loc 3])] [],.ife (.cmp .eq (.loc 5) (.lit (.str [97,108,116]))) [.expr (.bmeth (.loc 4) .append [.tup [.tup [.idx (.loc 0) (.lit (.int 2)),.loc 1],.loc 2,.loc 3]]),.ret (.tup [.tup [.idx (.loc 0) (.lit (.int 1)),.loc 1],.loc 2,.loc 3])] [],.ife (.cmp .eq (.loc 5) (.lit (.str [97,114,98,110,111]))) [.expr (.bmeth (.loc 4) .append [.tup [.tup [.idx (.loc 0) (.lit (.int 1)),.tup [.tup [.lit (.str [101,110,100,32,114,111,117,110,100]),.loc 0,.loc 2],.loc 1]],.loc 2,.loc 3]]),.ret (.tup [.loc 1,.loc 2,.loc 3])] [],.ret (.tup [.tup [.idx (.loc 0) (.lit (.int 1)),.tup [.tup [.bin .add (.lit (.str [101,110,100,32])) (.loc 5),.idx (.loc 0) (.lit (.int 2)),.loc 2],.loc 1]],.loc 2,.loc 3])]
noncomputable def b_led_out:List MS:=[.asg (.tup [.loc 7,.loc 8,.loc 9]) (.loc 0),.ife (.cmp .eq (.loc 7) (.lit (.str [101,110,100,32,108,97,116,101,114]))) [.ret (.tup [.loc 1,.loc 2,.bin .add (.loc 3) (.tup [.tup [.loc 8,.slice (.loc 4) (.loc 9) (.loc 2) (.lit .none)]])])] [],.ife (.cmp .eq (.loc 7) (.lit (.str [101,110,100,32,110,111,119]))) [.ret (.ife (.meth (.loc 6) 117 [.loc 8,.slice (.loc 4) (.loc 9) (.loc 2) (.lit .none)]) (.tup [.loc 1,.loc 2,.loc 3]) (.lit (.none)))] [],.ret (.ife (.cmp .eq (.loc 2) (.loc 9)) (.lit (.none)) (.tup [.tup [.loc 8,.loc 1],.loc 2,.loc 3]))]
noncomputable def b_steered:List MS:=[.asg (.tup [.loc 4,.loc 5]) (.tup [.idx (.idx (.loc 0) (.lit (.int 0))) (.lit (.int 0)),.idx (.loc 0) (.lit (.int 1))]),.ife (.cmp .eq (.loc 4) (.lit (.str [97,98,111,114,116]))) [.ret (.glob (.str [108,111,115,116]))] [],.ife (.cmp .eq (.loc 4) (.lit (.str [102,97,105,108]))) [.ret (.lit (.none))] [],.expr (.bmeth (.loc 3) .append [.ife (.cmp .eq (.loc 4) (.lit (.str [102,101,110,99,101]))) (.lit (.none)) (.tup [.loc 0,.loc 1,.loc 2])]),.ret (.tup [.loc 5,.loc 1,.loc 2])]
noncomputable def b_taken:List MS:=[.asg (.loc 7) (.idx (.loc 0) (.lit (.int 0))),.ife (.cmp .eq (.loc 7) (.lit (.str [97,114,98]))) [.ife (.cmp .lt (.loc 2) (.prim .len [.loc 4])) [.expr (.bmeth (.loc 5) .append [.tup [.tup [.loc 0,.loc 1],.bin .add (.loc 2) (.lit (.int 1)),.loc 3]])] [],.ret (.tup [.loc 1,.loc 2,.loc 3])] [],.ife (.cmp .eq (.loc 7) (.lit (.str [98,97,108]))) [.asg (.loc 8) (.call (.glob (.fn 42)) [.loc 4,.loc 2]),.for (.one 9) (.slice (.loc 8) (.lit .none) (.lit (.int 0)) (.neg (.lit (.int 1)))) [.expr (.bmeth (.loc 5) .append [.tup [.loc 1,.loc 9,.loc 3]])],.ret (.ife (.cmp .gt (.prim .len [.loc 8]) (.lit (.int 0))) (.tup [.loc 1,.idx (.loc 8) (.lit (.int 0)),.loc 3]) (.lit (.none)))] [],.asg (.loc 10) (.call (.glob (.fn 27)) [.loc 0,.loc 6]),.ife (.cmp .is (.loc 10) (.lit (.none))) [.ret (.lit (.none))] [],.asg (.loc 9) (.call (.glob (.fn 44)) [.loc 10,.loc 4,.loc 2]),.ret (.ife (.cmp .is (.loc 9) (.lit (.none))) (.lit (.none)) (.tup [.loc 1,.loc 9,.loc 3]))]
noncomputable def fnsC:List FI:=[⟨2,5,b_row_of⟩,
  ⟨1,1,b_is_plain_text⟩,
  ⟨1,3,b_with_texts_joined⟩,
  ⟨1,1,b_PatternCode_init⟩,
  ⟨2,2,b_PatternCode_emit⟩,
  ⟨2,5,b_PatternCode_put⟩,
  ⟨2,3,b_PatternCode_begun⟩,
  ⟨2,5,b_PatternCode_choice⟩,
  ⟨2,4,b_PatternCode_repeat⟩,
  ⟨3,4,b_PatternCode_bound⟩,
  ⟨1,4,b_straightened⟩,
  ⟨1,2,b_compile_pattern⟩,
  ⟨3,3,b_SnobolError_init⟩,
  ⟨2,2,b_Pattern_init⟩,
  ⟨2,2,b_Delayed_init⟩,
  ⟨4,4,b_NameRef_init⟩,
  ⟨1,1,b_is_fail⟩,
  ⟨2,2,b_fits⟩,
  ⟨2,5,b_whole_of_text⟩,
  ⟨1,3,b_text_of_whole⟩,
  ⟨2,2,b_to_whole⟩,
  ⟨1,1,b_to_text⟩,
  ⟨1,2,b_need_text⟩,
  ⟨3,4,b_plain_count⟩,
  ⟨2,3,b_plain_signs⟩,
  ⟨1,2,b_pattern_of⟩,
  ⟨1,1,b_is_delayed⟩,
  ⟨2,3,b_settled⟩,
  ⟨3,4,b_chars_end⟩,
  ⟨3,3,b_len_end⟩,
  ⟨2,2,b_pos_end⟩,
  ⟨3,3,b_rpos_end⟩,
  ⟨3,3,b_tab_end⟩,
  ⟨3,4,b_rtab_end⟩,
  ⟨1,1,b_rem_end⟩,
  ⟨3,3,b_any_at⟩,
  ⟨3,3,b_notany_at⟩,
  ⟨4,4,b_run_end⟩,
  ⟨3,4,b_span_end⟩,
  ⟨3,4,b_break_end⟩,
  ⟨2,2,b_arb_ends⟩,
  ⟨2,3,b_bal_end⟩,
  ⟨2,4,b_bal_ends⟩,
  ⟨4,4,b_one_end⟩,
  ⟨3,3,b_plain_end⟩,
  ⟨4,5,b_ends_of⟩,
  ⟨7,7,b_Way_init⟩,
  ⟨2,2,b_Way_copied⟩,
  ⟨3,3,b_Match_init⟩,
  ⟨3,5,b_Match_run⟩,
  ⟨1,1,b_Match_way_back⟩,
  ⟨3,4,b_Match_done⟩,
  ⟨3,6,b_Match_met_once⟩,
  ⟨3,6,b_Match_ended⟩,
  ⟨3,4,b_Match_other⟩,
  ⟨3,5,b_Match_met_often⟩,
  ⟨3,4,b_Match_asked⟩,
  ⟨1,3,b_named_rows⟩,
  ⟨4,7,b_match_orders⟩,
  ⟨4,4,b_match_compiled⟩,
  ⟨4,4,b_PlainHost_init⟩,
  ⟨2,2,b_PlainHost_value_of⟩,
  ⟨3,3,b_PlainHost_assign⟩,
  ⟨1,1,b_PlainHost_step⟩,
  ⟨4,6,b_match_plain⟩,
  ⟨4,5,b_match_at⟩,
  ⟨4,9,b_tried⟩,
  ⟨6,10,b_advanced⟩,
  ⟨5,6,b_led_in⟩,
  ⟨7,10,b_led_out⟩,
  ⟨4,6,b_steered⟩,
  ⟨7,11,b_taken⟩]
noncomputable def clsC:List CI:=[⟨3,[(101,4),(102,5),(103,6),(104,7),(105,8),(106,9)]⟩,⟨15,[]⟩,⟨46,[(107,47)]⟩,⟨48,[(108,49),(109,50),(110,51),(111,52),(112,53),(113,54),(114,55),(115,56)]⟩,⟨60,[(116,61),(117,62),(118,63)]⟩,⟨0,[]⟩,⟨13,[]⟩,⟨14,[]⟩,⟨12,[]⟩]
end Mine
namespace Mine
namespace L1
noncomputable def b_law_next:List MS:=[.asg (.tup [.loc 2,.loc 3]) (.loc 0),.asg (.idx (.loc 0) (.lit (.int 1))) (.bin .add (.loc 3) (.lit (.int 1))),.ife (.cmp .lt (.loc 3) (.prim .len [.loc 2])) [.ret (.bin .mod (.prim .abs [.prim .int [.idx (.loc 2) (.loc 3)]]) (.loc 1))] [],.ret (.bin .mod (.bin .add (.bin .add (.bin .add (.bin .mul (.lit (.int 7)) (.loc 3)) (.bin .fdiv (.loc 3) (.lit (.int 2)))) (.lit (.int 9))) (.prim .len [.loc 2])) (.loc 1))]
noncomputable def b_law_subject:List MS:=[.asg (.tup [.loc 1,.loc 2]) (.tup [.call (.glob (.fn 72)) [.loc 0,.lit (.int 3)],.call (.glob (.fn 72)) [.loc 0,.lit (.int 17)]]),.ife (.cmp .eq (.loc 1) (.lit (.int 0))) [.ret (.tup [.bin .mul (.lit (.str [49])) (.loc 2),.lit (.bool true)])] [],.asg (.loc 3) (.bmeth (.lit (.str [])) .join [.comp (.idx (.lit (.str [97,98])) (.call (.glob (.fn 72)) [.loc 0,.lit (.int 2)])) (.prim .range [.bin .add (.lit (.int 1)) (.call (.glob (.fn 72)) [.loc 0,.lit (.int 4)])]) (.one 6) 1 []]),.asg (.loc 4) (.slice (.bin .mul (.loc 3) (.loc 2)) (.lit .none) (.bin .mul (.bin .fdiv (.loc 2) (.prim .len [.loc 3])) (.prim .len [.loc 3])) (.lit .none)),.ife (.and [.cmp .eq (.loc 1) (.lit (.int 2)),.cmp .ne (.loc 4) (.lit (.str []))]) [.asg (.loc 5) (.call (.glob (.fn 72)) [.loc 0,.prim .len [.loc 4]]),.asg (.loc 4) (.bin .add (.bin .add (.slice (.loc 4) (.lit .none) (.loc 5) (.lit .none)) (.idx (.lit (.str [97,98])) (.call (.glob (.fn 72)) [.loc 0,.lit (.int 2)]))) (.slice (.loc 4) (.bin .add (.loc 5) (.lit (.int 1))) (.lit .none) (.lit .none)))] [],.ret (.tup [.loc 4,.lit (.bool false)])]
noncomputable def b_law_shortest:List MS:=[.asg (.loc 1) (.prim .len [.loc 0]),.for (.one 2) (.prim .range [.lit (.int 2),.bin .add (.bin .fdiv (.loc 1) (.lit (.int 2))) (.lit (.int 1))]) [.ife (.and [.cmp .eq (.bin .mod (.loc 1) (.loc 2)) (.lit (.int 0)),.cmp .eq (.loc 0) (.bin .mul (.slice (.loc 0) (.lit .none) (.loc 2) (.lit .none)) (.bin .fdiv (.loc 1) (.loc 2)))]) [.ret (.slice (.loc 0) (.lit .none) (.loc 2) (.lit .none))] []],.ret (.lit (.none))]
noncomputable def b_law_prime:List MS:=[.for (.one 1) (.prim .range [.lit (.int 2),.loc 0]) [.ife (.cmp .eq (.bin .mod (.loc 0) (.loc 1)) (.lit (.int 0))) [.ret (.loc 1)] []],.ret (.lit (.none))]
noncomputable def b_law:List MS:=[.asg (.loc 1) (.lst [.slice (.loc 0) (.lit .none) (.lit (.int 30)) (.lit .none),.lit (.int 0)]),.asg (.tup [.loc 2,.loc 3]) (.call (.glob (.fn 73)) [.loc 1]),.asg (.loc 4) (.tup [.lit (.str [100,101,108,97,121]),.tup [.lit (.str [110,97,109,101]),.lit (.str [87])]]),.asg (.loc 5) (.tup [.lit (.str [110,111,119]),.tup [.lit (.str [99,97,116]),.tup [.lit (.str [108,101,110]),.lit (.int 2)],.tup [.lit (.str [97,114,98])]],.new 1 [.lit (.str [118,97,114]),.lit (.none),.lit (.str [87])]]),.asg (.loc 6) (.tup [.lit (.str [99,97,116]),.loc 5,.tup [.lit (.str [99,97,116]),.loc 4,.tup [.lit (.str [99,97,116]),.tup [.lit (.str [97,114,98,110,111]),.loc 4],.tup [.lit (.str [114,112,111,115]),.lit (.int 0)]]]]),.asg (.loc 7) (.call (.glob (.fn 74)) [.loc 2]),.ife (.and [.loc 3,.cmp .ne (.ife (.cmp .is (.loc 7) (.lit (.none))) (.lit (.none)) (.prim .len [.loc 7])) (.call (.glob (.fn 75)) [.prim .len [.loc 2]])]) [.ret (.lit (.bool false))] [],.asg (.tup [.loc 8,.loc 9]) (.tup [.new 4 [.dict [],.lit (.int 9999),.lst []],.new 4 [.dict [],.lit (.int 9999),.lst []]]),.asg (.tup [.loc 10,.loc 11]) (.tup [.call (.glob (.fn 59)) [.loc 6,.loc 2,.lit (.bool true),.loc 8],.call (.glob (.fn 64)) [.loc 6,.loc 2,.lit (.bool true),.loc 9]]),.ife (.cmp .is (.loc 7) (.lit (.none))) [.ret (.and [.cmp .is (.loc 10) (.lit (.none)),.cmp .is (.loc 11) (.lit (.none))])] [],.ife (.or [.cmp .ne (.loc 10) (.tup [.lit (.int 0),.prim .len [.loc 2],.lst []]),.cmp .ne (.loc 11) (.loc 10)]) [.ret (.lit (.bool false))] [],.ret (.and [.cmp .eq (.attr (.loc 8) 9) (.dict [.lit (.str [87]),.loc 7]),.cmp .eq (.attr (.loc 9) 9) (.dict [.lit (.str [87]),.loc 7])])]
noncomputable def fnsL:List FI:=[⟨2,4,b_law_next⟩,
  ⟨1,6,b_law_subject⟩,
  ⟨1,3,b_law_shortest⟩,
  ⟨1,2,b_law_prime⟩,
  ⟨1,12,b_law⟩]
noncomputable def fns:List FI:=fnsC++fnsL
noncomputable def pg:Pg:=⟨fns,clsC⟩
noncomputable def gl:List (Str×GV):=[(Str.ofString "row_of",.fn 0),(Str.ofString "is_plain_text",.fn 1),(Str.ofString "with_texts_joined",.fn 2),(Str.ofString "straightened",.fn 10),(Str.ofString "compile_pattern",.fn 11),(Str.ofString "is_fail",.fn 16),(Str.ofString "fits",.fn 17),(Str.ofString "whole_of_text",.fn 18),(Str.ofString "text_of_whole",.fn 19),(Str.ofString "to_whole",.fn 20),(Str.ofString "to_text",.fn 21),(Str.ofString "need_text",.fn 22),(Str.ofString "plain_count",.fn 23),(Str.ofString "plain_signs",.fn 24),(Str.ofString "pattern_of",.fn 25),(Str.ofString "is_delayed",.fn 26),(Str.ofString "settled",.fn 27),(Str.ofString "chars_end",.fn 28),(Str.ofString "len_end",.fn 29),(Str.ofString "pos_end",.fn 30),(Str.ofString "rpos_end",.fn 31),(Str.ofString "tab_end",.fn 32),(Str.ofString "rtab_end",.fn 33),(Str.ofString "rem_end",.fn 34),(Str.ofString "any_at",.fn 35),(Str.ofString "notany_at",.fn 36),(Str.ofString "run_end",.fn 37),(Str.ofString "span_end",.fn 38),(Str.ofString "break_end",.fn 39),(Str.ofString "arb_ends",.fn 40),(Str.ofString "bal_end",.fn 41),(Str.ofString "bal_ends",.fn 42),(Str.ofString "one_end",.fn 43),(Str.ofString "plain_end",.fn 44),(Str.ofString "ends_of",.fn 45),(Str.ofString "named_rows",.fn 57),(Str.ofString "match_orders",.fn 58),(Str.ofString "match_compiled",.fn 59),(Str.ofString "match_plain",.fn 64),(Str.ofString "match_at",.fn 65),(Str.ofString "tried",.fn 66),(Str.ofString "advanced",.fn 67),(Str.ofString "led_in",.fn 68),(Str.ofString "led_out",.fn 69),(Str.ofString "steered",.fn 70),(Str.ofString "taken",.fn 71),(Str.ofString "_law_next",.fn 72),(Str.ofString "_law_subject",.fn 73),(Str.ofString "_law_shortest",.fn 74),(Str.ofString "_law_prime",.fn 75),(Str.ofString "law",.fn 76),(Str.ofString "ONE",.val (.str [111,110,101])),(Str.ofString "WAYS",.val (.str [119,97,121,115])),(Str.ofString "SPLIT",.val (.str [115,112,108,105,116])),(Str.ofString "JUMP",.val (.str [106,117,109,112])),(Str.ofString "MARK",.val (.str [109,97,114,107])),(Str.ofString "NAME",.val (.str [110,97,109,101])),(Str.ofString "SET",.val (.str [115,101,116])),(Str.ofString "GAIN",.val (.str [103,97,105,110])),(Str.ofString "PLACE",.val (.str [112,108,97,99,101])),(Str.ofString "ASK",.val (.str [97,115,107])),(Str.ofString "FENCE",.val (.str [102,101,110,99,101])),(Str.ofString "FAIL",.val (.str [102,97,105,108])),(Str.ofString "ABORT",.val (.str [97,98,111,114,116])),(Str.ofString "SUCCEED",.val (.str [115,117,99,99,101,101,100])),(Str.ofString "DONE",.val (.str [100,111,110,101])),(Str.ofString "PUT",.val (.str [112,117,116])),(Str.ofString "EMIT",.val (.str [101,109,105,116])),(Str.ofString "OPEN",.val (.str [111,112,101,110])),(Str.ofString "SHUT",.val (.str [115,104,117,116])),(Str.ofString "MEET",.val (.str [109,101,101,116])),(Str.ofString "SINGLE",.val (.tup [.str [99,104,97,114,115],.str [108,101,110],.str [112,111,115],.str [114,112,111,115],.str [116,97,98],.str [114,116,97,98],.str [97,110,121],.str [110,111,116,97,110,121],.str [115,112,97,110],.str [98,114,101,97,107],.str [114,101,109]])),(Str.ofString "ALONE",.val (.tup [.str [102,101,110,99,101],.str [102,97,105,108],.str [97,98,111,114,116],.str [115,117,99,99,101,101,100]])),(Str.ofString "COUNTED",.val (.tup [.str [108,101,110],.str [112,111,115],.str [114,112,111,115],.str [116,97,98],.str [114,116,97,98]])),(Str.ofString "SIGNED",.val (.tup [.str [97,110,121],.str [110,111,116,97,110,121],.str [115,112,97,110],.str [98,114,101,97,107]])),(Str.ofString "WIDTH_OF_COUNT",.val (.int 64)),(Str.ofString "OPENING",.val (.str [40])),(Str.ofString "CLOSING",.val (.str [41])),(Str.ofString "MET",.val (.int 0)),(Str.ofString "FAILED",.val (.int 1)),(Str.ofString "OVER",.val (.int 2)),(Str.ofString "LOST",.val (.str [108,111,115,116])),(Str.ofString "PatternCode",.cls 0),(Str.ofString "NameRef",.cls 1),(Str.ofString "Way",.cls 2),(Str.ofString "Match",.cls 3),(Str.ofString "PlainHost",.cls 4),(Str.ofString "Failure",.cls 5),(Str.ofString "Pattern",.cls 6),(Str.ofString "Delayed",.cls 7),(Str.ofString "SnobolError",.cls 8),(Str.ofString "abs",.pr .abs),(Str.ofString "chr",.pr .chr),(Str.ofString "int",.pr .int),(Str.ofString "len",.pr .len),(Str.ofString "list",.pr .list),(Str.ofString "min",.pr .min),(Str.ofString "ord",.pr .ord),(Str.ofString "range",.pr .range),(Str.ofString "str",.pr .str),(Str.ofString "isinstance",.isi),(Str.ofString "tuple",.typ .tuple)]
noncomputable def fa:List Nat:=[23,30,37,51,58,65,70,77,84,91,105,112,129,163,184,205,219,226,233,240,247,254,261,271,278,285,292,299,306,313,320,327,334,341,348,355,362,369,376,383,390,397,404,411,418,425,439,446,467,474,481,488,495,502,509,516,523,537,544,551,565,572,579,586,600,607,614,621,628,635,642,649,656,661,668,675,682]
noncomputable def lookG (x:Str):List (Str×GV)→Option GV
  | []=>none
  | (y,g)::r=>if x == y then some g else lookG x r
noncomputable def G (x:Str):Option GV:=lookG x gl
end L1
end Mine
namespace Mine.Q
section
variable {P:Pg} {call:CallT} {l l1 l2:Lo} {H H1 H2 H3 H4:Hp} {v u o i a b:V} {vs:List V} {e f c t x:ME} {es:List ME} {r:Option (V×Hp)}
theorem bnd_eq {α β:Type} {m:Option (α×Hp)} {a:α} {H:Hp} {g:α→Hp→Option β} (h:m=some (a,H)):bnd m g=g a H:=by rw [h]; rfl
theorem r_lit:evE P call (.lit v) l H=some (v,H):=rfl
theorem r_glob:evE P call (.glob v) l H=some (v,H):=rfl
theorem r_nil:evL P call [] l H=some ([],H):=rfl
theorem r_loc {i:Nat} (h:l[i]? = some (some v)):evE P call (.loc i) l H=some (v,H):=by show(match l[i]? with | some (some v)=>some (v,H) | _=>none)=_; rw [h]
theorem r_cons (h1:evE P call e l H=some (v,H1)) (h2:evL P call es l H1=some (vs,H2)):evL P call (e::es) l H=some (v::vs,H2):=(bnd_eq h1).trans (bnd_eq h2)
theorem r_tup (h1:evL P call es l H=some (vs,H1)):evE P call (.tup es) l H=some (.tup vs,H1):=bnd_eq h1
theorem r_lst (h1:evL P call es l H=some (vs,H1)):evE P call (.lst es) l H=some (.loc H1.length,H1++[.list vs]):=bnd_eq h1
theorem r_attr {a:Nat} (h1:evE P call e l H=some (o,H1)) (h2:getA H1 o a=some v):evE P call (.attr e a) l H=some (v,H1):=(bnd_eq h1).trans (by rw [h2])
theorem r_idx (h1:evE P call e l H=some (o,H1)) (h2:evE P call f l H1=some (i,H2)) (h3:idxV H2 o i=some v):evE P call (.idx e f) l H=some (v,H2):=(bnd_eq h1).trans ((bnd_eq h2).trans (by rw [h3]))
theorem r_slice {w z:V} {lo hi st:ME} (h1:evE P call e l H=some (o,H1)) (h2:evE P call lo l H1=some (u,H2)) (h3:evE P call hi l H2=some (w,H3)) (h4:evE P call st l H3=some (z,H4)) (h5:sliceV o u w z H4=r):evE P call (.slice e lo hi st) l H=r:=(bnd_eq h1).trans ((bnd_eq h2).trans ((bnd_eq h3).trans ((bnd_eq h4).trans h5)))
theorem r_bin {op:BOp} (h1:evE P call e l H=some (a,H1)) (h2:evE P call f l H1=some (b,H2)) (h3:binV op a b H2=r):evE P call (.bin op e f) l H=r:=(bnd_eq h1).trans ((bnd_eq h2).trans h3)
theorem r_neg {i:Int} (h1:evE P call e l H=some (.int i,H1)):evE P call (.neg e) l H=some (.int (-i),H1):=bnd_eq h1
theorem r_not {q:Bool} (h1:evE P call e l H=some (.bool q,H1)):evE P call (.not e) l H=some (.bool (!q),H1):=bnd_eq h1
theorem r_cmp {op:COp} {q:Bool} (h1:evE P call e l H=some (a,H1)) (h2:evE P call f l H1=some (b,H2)) (h3:cmpV H2 op a b=some q):evE P call (.cmp op e f) l H=some (.bool q,H2):=(bnd_eq h1).trans ((bnd_eq h2).trans (by rw [h3]))
theorem r_and0:evE P call (.and []) l H=some (.bool true,H):=rfl
theorem r_and (h1:evE P call e l H=some (.bool true,H1)) (h2:evE P call (.and es) l H1=r):evE P call (.and (e::es)) l H=r:=(bnd_eq h1).trans h2
theorem r_and_f (h1:evE P call e l H=some (.bool false,H1)):evE P call (.and (e::es)) l H=some (.bool false,H1):=bnd_eq h1
theorem r_or0:evE P call (.or []) l H=some (.bool false,H):=rfl
theorem r_or (h1:evE P call e l H=some (.bool false,H1)) (h2:evE P call (.or es) l H1=r):evE P call (.or (e::es)) l H=r:=(bnd_eq h1).trans h2
theorem r_or_t (h1:evE P call e l H=some (.bool true,H1)):evE P call (.or (e::es)) l H=some (.bool true,H1):=bnd_eq h1
theorem r_ife_t (h1:evE P call t l H=some (.bool true,H1)) (h2:evE P call e l H1=r):evE P call (.ife t e f) l H=r:=(bnd_eq h1).trans h2
theorem r_ife_f (h1:evE P call t l H=some (.bool false,H1)) (h2:evE P call f l H1=r):evE P call (.ife t e f) l H=r:=(bnd_eq h1).trans h2
theorem r_call {k:Nat} (h1:evE P call e l H=some (.fn k,H1)) (h2:evL P call es l H1=some (vs,H2)) (h3:call k vs H2=r):evE P call (.call e es) l H=r:=(bnd_eq h1).trans ((bnd_eq h2).trans h3)
theorem r_new {c:Nat} {ci:CI} (h1:evL P call es l H=some (vs,H1)) (h2:P.cls[c]? = some ci) (h3:call ci.init (.loc H1.length::vs) (H1++[.inst c []])=some (.none,H2)):evE P call (.new c es) l H=some (.loc H1.length,H2) :=
  (bnd_eq h1).trans (by rw [h2]; exact(bnd_eq h3))
theorem r_meth {n c m k:Nat} {fs:List (Nat×V)} {ci:CI} (h1:evE P call e l H=some (.loc n,H1)) (h2:H1[n]? = some (.inst c fs)) (h3:P.cls[c]? = some ci) (h4:lookN m ci.meths=some k) (h5:evL P call es l H1=some (vs,H2)) (h6:call k (.loc n::vs) H2=r):evE P call (.meth e m es) l H=r:=by
  refine(bnd_eq h1).trans ?_
  dsimp only
  rw [h2]; dsimp only; rw [h3]; dsimp only; rw [h4]
  exact(bnd_eq h5).trans h6
theorem r_bm {m:BM} (h1:evE P call e l H=some (o,H1)) (h2:bmK m o H1=true) (h3:evL P call es l H1=some (vs,H2)) (h4:bmV m o vs H2=r):evE P call (.bmeth e m es) l H=r:=(bnd_eq h1).trans (by rw [if_pos h2]; exact(bnd_eq h3).trans h4)
theorem r_prim {p:Pr} (h1:evL P call es l H=some (vs,H1)) (h2:primV p vs H1=r):evE P call (.prim p es) l H=r:=(bnd_eq h1).trans h2
theorem r_isin {k:IK} {q:Bool} (h1:evE P call e l H=some (v,H1)) (h2:isV v k=some q):evE P call (.isin e k) l H=some (.bool q,H1):=(bnd_eq h1).trans (by rw [h2])
theorem r_comp {ct:CT} {k:Nat} {cs:List ME} {it:It} (h1:evE P call e l H=some (v,H1)) (h2:iterV H1 v=some it) (h3:compN (fun l H=>evC P call cs l H) (fun l H=>evE P call x l H) ct (l++List.replicate k none) 1048576 it [] H1=some (vs,H2)) (h4:vs.length≤lim):evE P call (.comp x e ct k cs) l H=some (.loc H2.length,H2++[.list vs]) :=
  (bnd_eq h1).trans (by rw [h2]; exact(bnd_eq h3).trans (if_pos h4))
theorem t_loc0 {ev} {i:Nat}:asgT ev (.loc i) v l H=some (l.set i (some v),H):=rfl
theorem t_attr0 {a:Nat} (h1:evE P call e l H=some (o,H1)) (h2:setA H1 o a v=some H2):asgT (evE P call) (.attr e a) v l H=some (l,H2):=(bnd_eq h1).trans (by rw [h2])
theorem t_idx0 (h1:evE P call e l H=some (o,H1)) (h2:evE P call f l H1=some (i,H2)) (h3:setI H2 o i v=some H3):asgT (evE P call) (.idx e f) v l H=some (l,H3):=(bnd_eq h1).trans ((bnd_eq h2).trans (by rw [h3]))
theorem t_tup0 {ev} {ts:List Tg} {q:Option (Lo×Hp)} (h1:unpk H v=some vs) (h2:asgTs ev ts vs l H=q):asgT ev (.tup ts) v l H=q:=by show(match unpk H v with | some vs=>asgTs ev ts vs l H | none=>none)=_; rw [h1]; exact h2
theorem t_cons0 {ev} {tt:Tg} {ts:List Tg} {q:Option (Lo×Hp)} (h1:asgT ev tt v l H=some (l1,H1)) (h2:asgTs ev ts vs l1 H1=q):asgTs ev (tt::ts) (v::vs) l H=q:=by rw [asgTs_2,h1]; exact h2
theorem t_nil0 {ev}:asgTs ev [] [] l H=some (l,H):=rfl
theorem s_expr0 (h1:evE P call e l H=some (v,H1)):exS P call (.expr e) l H=some (.next,l,H1):=bnd_eq h1
theorem s_ret0 (h1:evE P call e l H=some (v,H1)):exS P call (.ret e) l H=some (.ret v,l,H1):=bnd_eq h1
theorem s_asg0 {tt:Tg} (h1:evE P call e l H=some (v,H1)) (h2:asgT (evE P call) tt v l H1=some (l2,H2)):exS P call (.asg tt e) l H=some (.next,l2,H2):=(bnd_eq h1).trans (by rw [h2]; rfl)
theorem s_auga0 {k:Nat} {op:BOp} (h1:evE P call e l H=some (o,H1)) (h2:getA H1 o k=some a) (h3:evE P call f l H1=some (b,H2)) (h4:augV op a b=some v) (h5:setA H2 o k v=some H3):exS P call (.auga e k op f) l H=some (.next,l,H3) :=
  (bnd_eq h1).trans (by rw [h2]; exact(bnd_eq h3).trans (by rw [h4]; dsimp only; rw [h5]))
theorem s_if_t {s1 s2:List MS} {q:SR} (h1:evE P call t l H=some (.bool true,H1)) (h2:exB P call s1 l H1=q):exS P call (.ife t s1 s2) l H=q:=(bnd_eq h1).trans h2
theorem s_if_f {s1 s2:List MS} {q:SR} (h1:evE P call t l H=some (.bool false,H1)) (h2:exB P call s2 l H1=q):exS P call (.ife t s1 s2) l H=q:=(bnd_eq h1).trans h2
theorem s_seq {s:MS} {ss:List MS} {q:SR} (h1:exS P call s l H=some (.next,l1,H1)) (h2:exB P call ss l1 H1=q):exB P call (s::ss) l H=q:=by
  show(match exS P call s l H with | some (Fl.next,l,H)=>exB P call ss l H | x=>x)=_
  rw [h1]; exact h2
theorem s_stop {s:MS} {ss:List MS} (h1:exS P call s l H=some (.ret v,l1,H1)):exB P call (s::ss) l H=some (.ret v,l1,H1):=by
  show(match exS P call s l H with | some (Fl.next,l,H)=>exB P call ss l H | x=>x)=_
  rw [h1]
theorem s_stop_b {s:MS} {ss:List MS} (h1:exS P call s l H=some (.brk,l1,H1)):exB P call (s::ss) l H=some (.brk,l1,H1):=by
  show(match exS P call s l H with | some (Fl.next,l,H)=>exB P call ss l H | x=>x)=_
  rw [h1]
theorem s_nil0:exB P call [] l H=some (.next,l,H):=rfl
theorem s_brk0:exS P call .brk l H=some (.brk,l,H):=rfl
theorem s_for0 {ct:CT} {s1:List MS} {it:It} {q:SR} (h1:evE P call e l H=some (v,H1)) (h2:iterV H1 v=some it) (h3:forN ct (fun l H=>exB P call s1 l H) 1048576 it l H1=q):exS P call (.for ct e s1) l H=q:=(bnd_eq h1).trans (by rw [h2]; exact h3)
theorem s_whl0 {s1:List MS} {q:SR} (h:whlN (evE P call t) (fun l H=>exB P call s1 l H) 1048576 l H=q):exS P call (.whl t s1) l H=q:=h
theorem call_ret {d k:Nat} {fi:FI} (h:P.fns[k]? = some fi) (h0:vs.length=fi.np) (h1:exB P (callF P d) fi.body (vs.map some++List.replicate (fi.ns - fi.np) none) H=some (.ret v,l1,H1)):callF P (d+1) k vs H=some (v,H1):=by
  rw [callF_2,h]; dsimp only; rw [if_pos h0,h1]
theorem call_next {d k:Nat} {fi:FI} (h:P.fns[k]? = some fi) (h0:vs.length=fi.np) (h1:exB P (callF P d) fi.body (vs.map some++List.replicate (fi.ns - fi.np) none) H=some (.next,l1,H1)):callF P (d+1) k vs H=some (.none,H1):=by
  rw [callF_2,h]; dsimp only; rw [if_pos h0,h1]
theorem g_inst {n c k:Nat} {fs:List (Nat×V)} (h:H[n]? = some (.inst c fs)) (h2:lookN k fs=some v):getA H (.loc n) k=some v:=by
  show atI H n _=_; unfold atI; rw [h]; exact h2
theorem g_setA {n c k:Nat} {fs:List (Nat×V)} (h:H[n]? = some (.inst c fs)):setA H (.loc n) k v=some (H.set n (.inst c (putN k v fs))):=by
  show atI H n _=_; unfold atI; rw [h]
theorem atL_at {β:Type} {n:Nat} {ls:List V} {g:List V→Option β} (h:H[n]? = some (.list ls)):atL H n g=g ls:=by unfold atL; rw [h]
theorem gd_at {β:Type} {c:Prop} [Decidable c] {x:β} (h:c):gd c x=some x:=if_pos h
theorem g_idxL {n:Nat} {ls:List V} {k:Int} (h:H[n]? = some (.list ls)) (h2:idxL ls k=some v):idxV H (.loc n) (.int k)=some v:=(atL_at h).trans h2
theorem g_unpk {n:Nat} {ls:List V} (h:H[n]? = some (.list ls)):unpk H (.loc n)=some ls:=atL_at h
theorem g_setI {n:Nat} {ls:List V} {k:Int} (h:H[n]? = some (.list ls)) (h2:0≤k∧k.toNat<ls.length):setI H (.loc n) (.int k) v=some (H.set n (.list (ls.set k.toNat v))):=(atL_at h).trans (gd_at h2)
theorem g_len {n:Nat} {ls:List V} (h:H[n]? = some (.list ls)):primV .len [.loc n] H=some (.int ls.length,H):=by
  show(lenV (.loc n) H).map _=_
  rw [show lenV (.loc n) H=some ls.length from atL_at h]; rfl
theorem g_append {n:Nat} {ls:List V} (h:H[n]? = some (.list ls)) (h2:ls.length<lim):bmV .append (.loc n) [v] H=some (.none,H.set n (.list (ls++[v]))):=(atL_at h).trans (gd_at h2)
theorem g_pop {n:Nat} {ls:List V} (h:H[n]? = some (.list (ls++[v]))):bmV .pop (.loc n) [] H=some (v,H.set n (.list ls)):=by
  refine(atL_at h).trans ?_
  rw [List.getLast?_append,List.dropLast_concat]; rfl
theorem g_kindL {n:Nat} {ls:List V} {m:BM} (h:H[n]? = some (.list ls)) (hm:(match m with | .append=>true | .pop=>true | .extend=>true | .reverse=>true | _=>false)=true):bmK m (.loc n) H=true:=by
  unfold bmK; simp only [h]; exact hm
theorem g_idx0 {ls:List V} {k:Nat} {j:Int} (hj:j=(k:Int)) (h:ls[k]? = some v):idxL ls j=some v:=by subst hj; unfold idxL; rw [if_pos (Int.natCast_nonneg k),Int.toNat_natCast]; exact h
theorem c_lt_t {i j:Int} (h:i<j):cmpV H .lt (.int i) (.int j)=some true:=by show some (decide _)=_; rw [decide_eq_true h]
theorem c_lt_f {i j:Int} (h:¬ i<j):cmpV H .lt (.int i) (.int j)=some false:=by show some (decide _)=_; rw [decide_eq_false h]
theorem c_gt_t {i j:Int} (h:j<i):cmpV H .gt (.int i) (.int j)=some true:=by show some (decide _)=_; rw [decide_eq_true h]
theorem c_gt_f {i j:Int} (h:¬ j<i):cmpV H .gt (.int i) (.int j)=some false:=by show some (decide _)=_; rw [decide_eq_false h]
theorem c_eq_t {i j:Int} (h:i=j):cmpV H .eq (.int i) (.int j)=some true:=by subst h; show some (i == i)=_; rw [beq_self_eq_true]
theorem c_eq_f {i j:Int} (h:i≠j):cmpV H .eq (.int i) (.int j)=some false:=by show some (i == j)=_; rw [beq_eq_false_iff_ne.mpr h]
theorem c_seq {s t:List Nat} {q:Bool} (h:(s == t)=q):cmpV H .eq (.str s) (.str t)=some q:=by show some (s == t)=_; rw [h]
theorem lt_get {n:Nat} {x:O} (h:H[n]? = some x):n<H.length:=(List.getElem?_eq_some_iff.mp h).1
theorem set_at {n:Nat} {x y:O} (h:H[n]? = some y):(H.set n x)[n]? = some x:=List.getElem?_set_self (lt_get h)
theorem set_off {n m:Nat} {x:O} {y:Option O} (h:n≠m) (h2:H[m]? = y):(H.set n x)[m]? = y:=(List.getElem?_set_ne h).trans h2
theorem app_in {n:Nat} {x:O} {y:Hp} (h:H[n]? = some x):(H++y)[n]? = some x:=by
  rw [List.getElem?_append_left (lt_get h)]; exact h
theorem app_new {x:O}:(H++[x])[H.length]? = some x:=by simp
theorem ne_len {n:Nat} {x:O} (h:H[n]? = some x):n≠H.length:=Nat.ne_of_lt (lt_get h)
theorem len_ne {n:Nat} {x:O} (h:H[n]? = some x):H.length≠n:=Ne.symm (ne_len h)
variable {cs:Lo→Hp→Option (Bool×Hp)} {ev tv:Lo→Hp→Option (V×Hp)} {ct:CT} {it it':It} {acc:List V} {n:Nat} {bd:Lo→Hp→SR}
theorem rc_t:evC P call [] l H=some (true,H):=rfl
theorem cn_end (h:nextI H it=some none):compN cs ev ct l (n+1) it acc H=some (acc.reverse,H):=by rw [compN_2,h]
theorem cn_step {w:V} {q:Option (List V×Hp)} (h1:nextI H it=some (some (v,it'))) (h2:setCT ct v l=some l1) (h3:cs l1 H=some (true,H1)) (h4:ev l1 H1=some (w,H2)) (h5:compN cs ev ct l n it' (w::acc) H2=q):compN cs ev ct l (n+1) it acc H=q:=by
  rw [compN_2,h1]; dsimp only; rw [h2]; dsimp only; rw [bnd_eq h3,if_pos rfl,bnd_eq h4]; exact h5
theorem fn_end (h:nextI H it=some none):forN ct bd (n+1) it l H=some (.next,l,H):=by rw [forN_2,h]
theorem fn_next {q:SR} (h1:nextI H it=some (some (v,it'))) (h2:setCT ct v l=some l1) (h3:bd l1 H=some (.next,l2,H2)) (h4:forN ct bd n it' l2 H2=q):forN ct bd (n+1) it l H=q:=by
  rw [forN_2,h1]; dsimp only; rw [h2]; dsimp only; rw [h3]; exact h4
theorem fn_ret (h1:nextI H it=some (some (v,it'))) (h2:setCT ct v l=some l1) (h3:bd l1 H=some (.ret u,l2,H2)):forN ct bd (n+1) it l H=some (.ret u,l2,H2):=by
  rw [forN_2,h1]; dsimp only; rw [h2]; dsimp only; rw [h3]
theorem wn_end (h1:tv l H=some (.bool false,H1)):whlN tv bd (n+1) l H=some (.next,l,H1):=by rw [whlN_2,bnd_eq h1]
theorem wn_next {q:SR} (h1:tv l H=some (.bool true,H1)) (h2:bd l H1=some (.next,l2,H2)) (h3:whlN tv bd n l2 H2=q):whlN tv bd (n+1) l H=q:=by
  rw [whlN_2,bnd_eq h1]; dsimp only; rw [h2]; exact h3
theorem wn_brk (h1:tv l H=some (.bool true,H1)) (h2:bd l H1=some (.brk,l2,H2)):whlN tv bd (n+1) l H=some (.next,l2,H2):=by
  rw [whlN_2,bnd_eq h1]; dsimp only; rw [h2]
theorem wn_ret (h1:tv l H=some (.bool true,H1)) (h2:bd l H1=some (.ret u,l2,H2)):whlN tv bd (n+1) l H=some (.ret u,l2,H2):=by
  rw [whlN_2,bnd_eq h1]; dsimp only; rw [h2]
theorem n_lst {m j:Nat} {ls:List V} (h:H[m]? = some (.list ls)) (h2:ls[j]? = some v):nextI H (.lst m j)=some (some (v,.lst m (j+1))):=by rw [nextI_3,atL_at h,h2]
theorem n_lst0 {m j:Nat} {ls:List V} (h:H[m]? = some (.list ls)) (h2:ls[j]? = none):nextI H (.lst m j)=some none:=by rw [nextI_3,atL_at h,h2]
theorem i_lst {m:Nat} {ls:List V} (h:H[m]? = some (.list ls)):iterV H (.loc m)=some (.lst m 0):=atL_at h
theorem i_rng {p q k:Int} (h1:p.natAbs<1048576) (h2:q.natAbs<1048576) (h3:k=1∨k = -1):iterV H (.rng p q k)=some (.rng p k (rngLen p q k)):=if_pos ⟨h1,h2,h3⟩
theorem rng_up {p q:Int} {m:Nat} (h:q=p+m):rngLen p q 1=m:=by
  subst h
  unfold rngLen
  rw [if_pos (show(0:Int)<1 by decide),Int.ediv_one]
  split <;> omega
theorem g_join {m:Nat} {ls:List V} {ss:List (List Nat)} (h:H[m]? = some (.list ls)) (h2:strsOf ls=some ss) (h3:(catL ss).length≤lim):bmV .join (.str []) [.loc m] H=some (.str (catL ss),H):=by
  show(joinV H m).map _=_
  have:joinV H m=some (.str (catL ss)):=(atL_at h).trans (by unfold strsOf'; rw [h2]; exact gd_at h3)
  rw [this]; rfl
theorem p_range1 {a:Int} (h:a.natAbs<1048576):primV .range [.int a] H=some (.rng 0 a 1,H):=by
  show(gd (a.natAbs<1048576) (V.rng 0 a 1)).map _=_
  rw [gd_at h]; rfl
theorem p_range2 {a b:Int} (h:a.natAbs<1048576∧b.natAbs<1048576):primV .range [.int a,.int b] H=some (.rng a b 1,H):=by
  show(gd (a.natAbs<1048576∧b.natAbs<1048576) (V.rng a b 1)).map _=_
  rw [gd_at h]; rfl
end
theorem r_ife_b {P:Pg} {call:CallT} {t e f:ME} {l:Lo} {H H1 H2:Hp} {q:Bool} {u v:V} (h1:evE P call t l H=some (.bool q,H1)) (h2:evE P call e l H1=some (u,H2)) (h3:evE P call f l H1=some (v,H2)):evE P call (.ife t e f) l H=some (bif q then u else v,H2):=by
  cases q
  · exact r_ife_f h1 h3
  · exact r_ife_t h1 h2
noncomputable abbrev pgc (own:List FI):Pg:=⟨fnsC++own,clsC⟩
section
variable {own:List FI} {d:Nat} {H:Hp}
noncomputable abbrev hostO (va rf lg:V) (m s:Int):O:=.inst 4 [(9,va),(10,.int m),(11,rf),(12,.int 64),(13,.int s),(14,lg)]
theorem step_ok {h:Nat} {va rf lg:V} {m s:Int} (hh:H[h]? = some (hostO va rf lg m s)) (hs:s<m):callF (pgc own) (d+1) 63 [.loc h] H=some (.none,H.set h (hostO va rf lg m (s+1))) :=
  call_next rfl rfl (s_seq (s_auga0 (r_loc rfl) (by exact g_inst (by solve_by_elim [app_new,set_at,set_off,app_in,ne_len,len_ne,Ne.symm]) rfl) r_lit (by rfl) (g_setA (by solve_by_elim [app_new,set_at,set_off,app_in,ne_len,len_ne,Ne.symm]))) (s_seq (s_if_f (r_cmp (r_attr (r_loc rfl) (by exact g_inst (by solve_by_elim [app_new,set_at,set_off,app_in,ne_len,len_ne,Ne.symm]) rfl)) (r_attr (r_loc rfl) (by exact g_inst (by solve_by_elim [app_new,set_at,set_off,app_in,ne_len,len_ne,Ne.symm]) rfl)) (c_gt_f (by omega))) s_nil0) s_nil0))
noncomputable abbrev chV (t:List Nat):V:=.tup [.str [99,104,97,114,115],.str t]
theorem adv_cat {a b rest at' nm s p h:V}:callF (pgc own) (d+2) 67 [.tup [.tup [.str [99,97,116],a,b],rest],at',nm,s,p,h] H=some (.tup [.tup [a,.tup [b,rest]],at',nm],H):=by kernel_rfl
end
section
variable {P:Pg} {call:CallT} {l:Lo} {H H1 H2 H3:Hp} {a b z u v:V} {e f g:ME}
theorem c_leN {i j:Nat} {q:Bool} (h:decide (i≤j)=q):cmpV H .le (.int i) (.int j)=some q:=by
  show some (decide ((i:Int)≤j))=_
  rw [← h]; congr 1; exact decide_eq_decide.mpr Int.ofNat_le
theorem c_ltN {i j:Nat} {q:Bool} (h:decide (i<j)=q):cmpV H .lt (.int i) (.int j)=some q:=by
  show some (decide ((i:Int)<j))=_
  rw [← h]; congr 1; exact decide_eq_decide.mpr Int.ofNat_lt
theorem c_gtN {i j:Nat} {q:Bool} (h:decide (j<i)=q):cmpV H .gt (.int i) (.int j)=some q:=by
  show some (decide ((j:Int)<i))=_
  rw [← h]; congr 1; exact decide_eq_decide.mpr Int.ofNat_lt
theorem c_eqI {i j:Int} {q:Bool} (h:decide (i=j)=q):cmpV H .eq (.int i) (.int j)=some q:=by
  show some (i == j)=_
  rw [← h]; congr 1
theorem c_in0 {n:Nat} {s:List Nat} (h:H[n]? = some (.list [])):cmpV H .isin (.str s) (.loc n)=some false:=(atL_at h).trans rfl
theorem idxL_at {α:Type} {l:List α} {k:Nat} {x:α} (h:l[k]? = some x):idxL l (k:Int)=some x:=by unfold idxL; rw [if_pos (Int.natCast_nonneg k),Int.toNat_natCast]; exact h
theorem atD_at {β:Type} {n:Nat} {es:List (List Nat×V)} {k:List (List Nat×V)→Option β} (h:H[n]? = some (.dict es)):atD H n k=k es:=by unfold atD; rw [h]
theorem g_setD {n:Nat} {es:List (List Nat×V)} {k:List Nat} (h:H[n]? = some (.dict es)) (h2:es.length<1024):setI H (.loc n) (.str k) v=some (H.set n (.dict (putS k v es))):=(atD_at h).trans (gd_at h2)
theorem g_get {n:Nat} {es:List (List Nat×V)} {k:List Nat} (h:H[n]? = some (.dict es)):bmV .get (.loc n) [.str k,v] H=some ((lookS k es).getD v,H):=atD_at h
theorem g_kindG {n:Nat} {es:List (List Nat×V)} (h:H[n]? = some (.dict es)):bmK .get (.loc n) H=true:=by unfold bmK; simp only [h]
end
noncomputable abbrev nrO (k:List Nat):O:=.inst 1 [(15,.str [118,97,114]),(16,.none),(17,.str k)]
inductive Sg where
  | ch (t:List Nat) | len (n:Nat) | rpos (n:Nat)
noncomputable def sgK:Sg→List Nat
  | .ch _=>[99,104,97,114,115]
  | .len _=>[108,101,110]
  | .rpos _=>[114,112,111,115]
noncomputable def sgT:Sg→V
  | .ch t=>.str t
  | .len n=>.int n
  | .rpos n=>.int n
noncomputable def sgL:Sg→List V
  | .ch t=>[.str t]
  | .len n=>[.int n]
  | .rpos n=>[.int n]
noncomputable def sgV (x:Sg):V:=.tup (.str (sgK x)::sgL x)
noncomputable def metB (s t:List Nat) (a:Nat):Bool:=(s.take (a+t.length)).drop a == t
noncomputable def oN (b:Bool) (n:Nat):Option Nat:=bif b then some n else none
noncomputable def sgE (s:List Nat) (a:Nat):Sg→Option Nat
  | .ch t=>oN (metB s t a) (a+t.length)
  | .len n=>oN (decide (a+n≤s.length)) (a+n)
  | .rpos n=>oN (decide (s.length=a+n)) a
noncomputable def oV' (x:Option Nat):V:=match x with | some n=>.int n | none=>.none
theorem oV_bif {b:Bool} {n:Nat}:(bif b then V.int (n:Nat) else V.none)=oV' (oN b n):=by cases b <;> rfl
section
variable {own:List FI} {d:Nat} {H:Hp} {s t:List Nat} {a n:Nat}
theorem e_chars:callF (pgc own) (d+1) 28 [.str s,.int a,.str t] H=some (oV' (sgE s a (.ch t)),H) :=
  Eq.trans (b:=some (bif metB s t a then .int (a+t.length:Nat) else .none,H)) (call_ret rfl rfl (s_seq (s_asg0 (r_bin (r_loc rfl) (r_prim (r_cons (r_loc rfl) r_nil) (by first | rfl | exact g_len (by solve_by_elim [app_new,set_at,set_off,app_in,ne_len,len_ne,Ne.symm]))) (by rfl)) t_loc0) (s_stop (s_ret0 (r_ife_b (r_cmp (r_slice (r_loc rfl) (r_loc rfl) (r_loc rfl) r_lit (by rfl)) (r_loc rfl) (c_seq rfl)) (r_loc rfl) r_lit))))) (by rw [oV_bif]; rfl)
theorem e_len:callF (pgc own) (d+1) 29 [.str s,.int a,.int n] H=some (oV' (sgE s a (.len n)),H) :=
  Eq.trans (b:=some (bif decide (a+n≤s.length) then .int (a+n:Nat) else .none,H)) (call_ret rfl rfl (s_stop (s_ret0 (r_ife_b (r_cmp (r_bin (r_loc rfl) (r_loc rfl) (show _=some (V.int (a+n:Nat),_) from rfl)) (r_prim (r_cons (r_loc rfl) r_nil) rfl) (c_leN (i:=a+n) (j:=s.length) rfl)) (r_bin (r_loc rfl) (r_loc rfl) (show _=some (V.int (a+n:Nat),_) from rfl)) r_lit)))) (by rw [oV_bif]; rfl)
theorem e_rpos:callF (pgc own) (d+1) 31 [.str s,.int a,.int n] H=some (oV' (sgE s a (.rpos n)),H) :=
  Eq.trans (b:=some (bif decide (s.length=a+n) then .int a else .none,H)) (call_ret rfl rfl (s_stop (s_ret0 (r_ife_b (r_cmp (r_bin (r_prim (r_cons (r_loc rfl) r_nil) rfl) (r_loc rfl) (show _=some (V.int ((s.length:Int) - a),_) from rfl)) (r_loc rfl) (c_eqI (i:=(s.length:Int) - a) (j:=n) (q:=decide (s.length=a+n)) (decide_eq_decide.mpr (by omega)))) (r_loc rfl) r_lit)))) (by rw [oV_bif]; rfl)
theorem plain_ok (hs:s.length<1048576):∀ x:Sg,callF (pgc own) (d+4) 44 [sgV x,.str s,.int a] H=some (oV' (sgE s a x),H)
  | .ch t=>call_ret rfl rfl (s_stop (s_ret0 (r_ife_f (r_cmp (r_idx (r_loc rfl) r_lit rfl) r_lit rfl) (r_call r_glob (r_cons (r_idx (r_loc rfl) r_lit rfl) (r_cons (r_loc rfl) (r_cons (r_loc rfl) (r_cons (r_idx (r_loc rfl) r_lit rfl) r_nil)))) (call_ret rfl rfl (s_stop (s_if_t (r_cmp (r_loc rfl) r_lit (by rfl)) (s_stop (s_ret0 (r_call r_glob (r_cons (r_loc rfl) (r_cons (r_loc rfl) (r_cons (r_loc rfl) r_nil))) e_chars))))))))))
  | .len t=>call_ret rfl rfl (s_stop (s_ret0 (r_ife_f (r_cmp (r_idx (r_loc rfl) r_lit rfl) r_lit rfl) (r_call r_glob (r_cons (r_idx (r_loc rfl) r_lit rfl) (r_cons (r_loc rfl) (r_cons (r_loc rfl) (r_cons (r_idx (r_loc rfl) r_lit rfl) r_nil)))) (call_ret rfl rfl (s_seq (s_if_f (r_cmp (r_loc rfl) r_lit (by rfl)) s_nil0) (s_stop (s_if_t (r_cmp (r_loc rfl) r_lit (by rfl)) (s_stop (s_ret0 (r_call r_glob (r_cons (r_loc rfl) (r_cons (r_loc rfl) (r_cons (r_loc rfl) r_nil))) e_len)))))))))))
  | .rpos t=>call_ret rfl rfl (s_stop (s_ret0 (r_ife_f (r_cmp (r_idx (r_loc rfl) r_lit rfl) r_lit rfl) (r_call r_glob (r_cons (r_idx (r_loc rfl) r_lit rfl) (r_cons (r_loc rfl) (r_cons (r_loc rfl) (r_cons (r_idx (r_loc rfl) r_lit rfl) r_nil)))) (call_ret rfl rfl (s_seq (s_if_f (r_cmp (r_loc rfl) r_lit (by rfl)) s_nil0) (s_seq (s_if_f (r_cmp (r_loc rfl) r_lit (by rfl)) s_nil0) (s_seq (s_if_f (r_cmp (r_loc rfl) r_lit (by rfl)) s_nil0) (s_stop (s_if_t (r_cmp (r_loc rfl) r_lit (by rfl)) (s_stop (s_ret0 (r_call r_glob (r_cons (r_loc rfl) (r_cons (r_loc rfl) (r_cons (r_loc rfl) r_nil))) e_rpos)))))))))))))
theorem settled_ok {h:V}:∀ x:Sg,callF (pgc own) (d+2) 27 [sgV x,h] H=some (sgV x,H)
  | .ch _=>by kernel_rfl
  | .len _=>by kernel_rfl
  | .rpos _=>by kernel_rfl
variable {h va rf lg r:Nat} {m k:Int} {v:V} {es:List (List Nat×V)} {log:List V} {key:List Nat}
theorem assign_ok (hh:H[h]? = some (hostO (.loc va) (.loc rf) (.loc lg) m k)) (hr:H[r]? = some (nrO key)) (hrf:H[rf]? = some (.list [])) (hva:H[va]? = some (.dict es)) (hes:es.length<1024) (hlg:H[lg]? = some (.list log)) (hll:log.length<lim) (n1:va≠h) (n2:va≠r) (n3:va≠lg):callF (pgc own) (d+1) 62 [.loc h,.loc r,v] H=some (.bool true,(H.set va (.dict (putS key v es))).set lg (.list (log++[.tup [.str key,v]]))) :=
  call_ret rfl rfl (s_seq (s_if_f (r_cmp (r_attr (r_loc rfl) (g_inst hr rfl)) (r_attr (r_loc rfl) (g_inst hh rfl)) (c_in0 hrf)) s_nil0) (s_seq (s_asg0 (r_loc rfl) (t_idx0 (r_attr (r_loc rfl) (g_inst hh rfl)) (r_attr (r_loc rfl) (g_inst hr rfl)) (g_setD hva hes))) (s_seq (s_expr0 (r_bm (r_attr (r_loc rfl) (g_inst (set_off n1 hh) rfl)) (g_kindL (set_off n3 hlg) rfl) (r_cons (r_tup (r_cons (r_attr (r_loc rfl) (g_inst (set_off n2 hr) rfl)) (r_cons (r_loc rfl) r_nil))) r_nil) (g_append (set_off n3 hlg) hll))) (s_stop (s_ret0 r_lit)))))
theorem value_ok (hh:H[h]? = some (hostO (.loc va) (.loc rf) (.loc lg) m k)) (hva:H[va]? = some (.dict es)):callF (pgc own) (d+1) 61 [.loc h,.tup [.str [110,97,109,101],.str key]] H=some ((lookS key es).getD (.str []),H) :=
  call_ret rfl rfl (s_stop (s_if_t (r_cmp (r_idx (r_loc rfl) r_lit rfl) r_lit rfl) (s_stop (s_ret0 (r_bm (r_attr (r_loc rfl) (g_inst hh rfl)) (g_kindG hva) (r_cons (r_idx (r_loc rfl) r_lit rfl) (r_cons r_lit r_nil)) (g_get hva))))))
end
structure KF (k:List Nat):Prop where
  f1:([[99,97,116],[97,108,116],[97,114,98,110,111],[108,97,116,101,114],[110,111,119]]:List (List Nat)).any (· == k)=false
  f2:(k.take 4 == [101,110,100,32])=false
  f3:(k == [99,117,114,115,111,114])=false
  f4:(k == [100,101,108,97,121])=false
  f5:([[102,101,110,99,101],[97,98,111,114,116],[102,97,105,108],[115,117,99,99,101,101,100]]:List (List Nat)).any (· == k)=false
  f6:(k == [97,114,98])=false
  f7:(k == [98,97,108])=false
theorem kf:∀ x:Sg,KF (sgK x)
  | .ch _=>⟨rfl,rfl,rfl,rfl,rfl,rfl,rfl⟩
  | .len _=>⟨rfl,rfl,rfl,rfl,rfl,rfl,rfl⟩
  | .rpos _=>⟨rfl,rfl,rfl,rfl,rfl,rfl,rfl⟩
inductive TxV:V→List Nat→Prop where
  | str (t:List Nat):TxV (.str t) t
section
variable {own:List FI} {d:Nat} {H:Hp} {s t:List Nat} {a n e:Nat} {x:Sg} {rest nm p h:V}
theorem taken_t (hs:s.length<1048576) (he:sgE s a x=some e):callF (pgc own) (d+5) 71 [sgV x,rest,.int a,nm,.str s,p,h] H=some (.tup [rest,.int e,nm],H) :=
  call_ret rfl rfl (s_seq (s_asg0 (r_idx (r_loc rfl) r_lit rfl) t_loc0) (s_seq (s_if_f (r_cmp (r_loc rfl) r_lit (c_seq (kf x).f6)) s_nil0) (s_seq (s_if_f (r_cmp (r_loc rfl) r_lit (c_seq (kf x).f7)) s_nil0) (s_seq (s_asg0 (r_call r_glob (r_cons (r_loc rfl) (r_cons (r_loc rfl) r_nil)) (settled_ok x)) t_loc0) (s_seq (s_if_f (r_cmp (r_loc rfl) r_lit rfl) s_nil0) (s_seq (s_asg0 (r_call r_glob (r_cons (r_loc rfl) (r_cons (r_loc rfl) (r_cons (r_loc rfl) r_nil))) ((plain_ok hs x).trans (congrArg (fun z=>some (oV' z,H)) he))) t_loc0) (s_stop (s_ret0 (r_ife_f (r_cmp (r_loc rfl) r_lit rfl) (r_tup (r_cons (r_loc rfl) (r_cons (r_loc rfl) (r_cons (r_loc rfl) r_nil)))))))))))))
theorem taken_f (hs:s.length<1048576) (he:sgE s a x=none):callF (pgc own) (d+5) 71 [sgV x,rest,.int a,nm,.str s,p,h] H=some (.none,H) :=
  call_ret rfl rfl (s_seq (s_asg0 (r_idx (r_loc rfl) r_lit rfl) t_loc0) (s_seq (s_if_f (r_cmp (r_loc rfl) r_lit (c_seq (kf x).f6)) s_nil0) (s_seq (s_if_f (r_cmp (r_loc rfl) r_lit (c_seq (kf x).f7)) s_nil0) (s_seq (s_asg0 (r_call r_glob (r_cons (r_loc rfl) (r_cons (r_loc rfl) r_nil)) (settled_ok x)) t_loc0) (s_seq (s_if_f (r_cmp (r_loc rfl) r_lit rfl) s_nil0) (s_seq (s_asg0 (r_call r_glob (r_cons (r_loc rfl) (r_cons (r_loc rfl) (r_cons (r_loc rfl) r_nil))) ((plain_ok hs x).trans (congrArg (fun z=>some (oV' z,H)) he))) t_loc0) (s_stop (s_ret0 (r_ife_t (r_cmp (r_loc rfl) r_lit rfl) r_lit)))))))))
theorem adv_sg {v:V} (hr:callF (pgc own) (d+5) 71 [sgV x,rest,.int a,nm,.str s,p,h] H=some (v,H)):callF (pgc own) (d+6) 67 [.tup [sgV x,rest],.int a,nm,.str s,p,h] H=some (v,H) :=
  call_ret rfl rfl (s_seq (s_asg0 (r_loc rfl) (t_tup0 rfl (t_cons0 t_loc0 (t_cons0 t_loc0 t_nil0)))) (s_seq (s_asg0 (r_idx (r_loc rfl) r_lit rfl) t_loc0) (s_seq (s_if_f (r_cmp (r_loc rfl) (r_tup (r_cons r_lit (r_cons r_lit (r_cons r_lit (r_cons r_lit (r_cons r_lit r_nil)))))) (congrArg some (kf x).f1)) s_nil0) (s_seq (s_if_f (r_cmp (r_slice (r_loc rfl) r_lit r_lit r_lit rfl) r_lit (c_seq (kf x).f2)) s_nil0) (s_seq (s_if_f (r_cmp (r_loc rfl) r_lit (c_seq (kf x).f3)) s_nil0) (s_seq (s_if_f (r_cmp (r_loc rfl) r_lit (c_seq (kf x).f4)) s_nil0) (s_seq (s_if_f (r_cmp (r_loc rfl) (r_tup (r_cons r_lit (r_cons r_lit (r_cons r_lit (r_cons r_lit r_nil))))) (congrArg some (kf x).f5)) s_nil0) (s_stop (s_ret0 (r_call r_glob (r_cons (r_loc rfl) (r_cons (r_loc rfl) (r_cons (r_loc rfl) (r_cons (r_loc rfl) (r_cons (r_loc rfl) (r_cons (r_loc rfl) (r_cons (r_loc rfl) r_nil))))))) hr))))))))))
theorem adv_now {b r at':V} {s:V}:callF (pgc own) (d+2) 67 [.tup [.tup [.str [110,111,119],b,r],rest],at',nm,s,p,h] H=some (.tup [.tup [b,.tup [.tup [.str [101,110,100,32,110,111,119],r,at'],rest]],at',nm],H):=by kernel_rfl
section
variable {p:Nat} {L:List V} {at' s:V}
theorem led_rp {b:V} (hp:H[p]? = some (.list L)) (hl:L.length<lim):callF (pgc own) (d+1) 68 [.tup [.str [97,114,98,110,111],b],rest,at',nm,.loc p] H=some (.tup [rest,at',nm],H.set p (.list (L++[.tup [.tup [b,.tup [.tup [.str [101,110,100,32,114,111,117,110,100],.tup [.str [97,114,98,110,111],b],at'],rest]],at',nm]]))) :=
  call_ret rfl rfl (s_seq (s_asg0 (r_idx (r_loc rfl) r_lit rfl) t_loc0) (s_seq (s_if_f (r_cmp (r_loc rfl) r_lit rfl) s_nil0) (s_seq (s_if_f (r_cmp (r_loc rfl) r_lit rfl) s_nil0) (s_stop (s_if_t (r_cmp (r_loc rfl) r_lit rfl) (s_seq (s_expr0 (r_bm (r_loc rfl) (g_kindL hp rfl) (r_cons (r_tup (r_cons (r_tup (r_cons (r_idx (r_loc rfl) r_lit rfl) (r_cons (r_tup (r_cons (r_tup (r_cons r_lit (r_cons (r_loc rfl) (r_cons (r_loc rfl) r_nil)))) (r_cons (r_loc rfl) r_nil))) r_nil))) (r_cons (r_loc rfl) (r_cons (r_loc rfl) r_nil)))) r_nil) (g_append hp hl))) (s_stop (s_ret0 (r_tup (r_cons (r_loc rfl) (r_cons (r_loc rfl) (r_cons (r_loc rfl) r_nil))))))))))))
theorem adv_rp {b:V} (hp:H[p]? = some (.list L)) (hl:L.length<lim):callF (pgc own) (d+2) 67 [.tup [.tup [.str [97,114,98,110,111],b],rest],at',nm,s,.loc p,h] H=some (.tup [rest,at',nm],H.set p (.list (L++[.tup [.tup [b,.tup [.tup [.str [101,110,100,32,114,111,117,110,100],.tup [.str [97,114,98,110,111],b],at'],rest]],at',nm]]))) :=
  call_ret rfl rfl (s_seq (s_asg0 (r_loc rfl) (t_tup0 rfl (t_cons0 t_loc0 (t_cons0 t_loc0 t_nil0)))) (s_seq (s_asg0 (r_idx (r_loc rfl) r_lit rfl) t_loc0) (s_stop (s_if_t (r_cmp (r_loc rfl) (r_tup (r_cons r_lit (r_cons r_lit (r_cons r_lit (r_cons r_lit (r_cons r_lit r_nil)))))) rfl) (s_stop (s_ret0 (r_call r_glob (r_cons (r_loc rfl) (r_cons (r_loc rfl) (r_cons (r_loc rfl) (r_cons (r_loc rfl) (r_cons (r_loc rfl) r_nil))))) (led_rp hp hl))))))))
end
section
variable {p:Nat} {L:List V}
theorem taken_arb_t (hp:H[p]? = some (.list L)) (hl:L.length<lim) (ha:a<s.length):callF (pgc own) (d+1) 71 [.tup [.str [97,114,98]],rest,.int a,nm,.str s,.loc p,h] H=some (.tup [rest,.int a,nm],H.set p (.list (L++[.tup [.tup [.tup [.str [97,114,98]],rest],.int (a+1:Nat),nm]]))) :=
  call_ret rfl rfl (s_seq (s_asg0 (r_idx (r_loc rfl) r_lit rfl) t_loc0) (s_stop (s_if_t (r_cmp (r_loc rfl) r_lit rfl) (s_seq (s_if_t (r_cmp (r_loc rfl) (r_prim (r_cons (r_loc rfl) r_nil) rfl) (c_ltN (decide_eq_true ha))) (s_seq (s_expr0 (r_bm (r_loc rfl) (g_kindL hp rfl) (r_cons (r_tup (r_cons (r_tup (r_cons (r_loc rfl) (r_cons (r_loc rfl) r_nil))) (r_cons (r_bin (r_loc rfl) r_lit rfl) (r_cons (r_loc rfl) r_nil)))) r_nil) (g_append hp hl))) s_nil0)) (s_stop (s_ret0 (r_tup (r_cons (r_loc rfl) (r_cons (r_loc rfl) (r_cons (r_loc rfl) r_nil))))))))))
theorem taken_arb_f (ha:¬ a<s.length) {p:V}:callF (pgc own) (d+1) 71 [.tup [.str [97,114,98]],rest,.int a,nm,.str s,p,h] H=some (.tup [rest,.int a,nm],H) :=
  call_ret rfl rfl (s_seq (s_asg0 (r_idx (r_loc rfl) r_lit rfl) t_loc0) (s_stop (s_if_t (r_cmp (r_loc rfl) r_lit rfl) (s_seq (s_if_f (r_cmp (r_loc rfl) (r_prim (r_cons (r_loc rfl) r_nil) rfl) (c_ltN (decide_eq_false ha))) s_nil0) (s_stop (s_ret0 (r_tup (r_cons (r_loc rfl) (r_cons (r_loc rfl) (r_cons (r_loc rfl) r_nil))))))))))
theorem adv_arb {v:V} {H2:Hp} {p:V} (e:callF (pgc own) (d+1) 71 [.tup [.str [97,114,98]],rest,.int a,nm,.str s,p,h] H=some (v,H2)):callF (pgc own) (d+2) 67 [.tup [.tup [.str [97,114,98]],rest],.int a,nm,.str s,p,h] H=some (v,H2) :=
  call_ret rfl rfl (s_seq (s_asg0 (r_loc rfl) (t_tup0 rfl (t_cons0 t_loc0 (t_cons0 t_loc0 t_nil0)))) (s_seq (s_asg0 (r_idx (r_loc rfl) r_lit rfl) t_loc0) (s_seq (s_if_f (r_cmp (r_loc rfl) (r_tup (r_cons r_lit (r_cons r_lit (r_cons r_lit (r_cons r_lit (r_cons r_lit r_nil)))))) rfl) s_nil0) (s_seq (s_if_f (r_cmp (r_slice (r_loc rfl) r_lit r_lit r_lit rfl) r_lit rfl) s_nil0) (s_seq (s_if_f (r_cmp (r_loc rfl) r_lit rfl) s_nil0) (s_seq (s_if_f (r_cmp (r_loc rfl) r_lit rfl) s_nil0) (s_seq (s_if_f (r_cmp (r_loc rfl) (r_tup (r_cons r_lit (r_cons r_lit (r_cons r_lit (r_cons r_lit r_nil))))) rfl) s_nil0) (s_stop (s_ret0 (r_call r_glob (r_cons (r_loc rfl) (r_cons (r_loc rfl) (r_cons (r_loc rfl) (r_cons (r_loc rfl) (r_cons (r_loc rfl) (r_cons (r_loc rfl) (r_cons (r_loc rfl) r_nil))))))) e))))))))))
end
theorem adv_er_f {b:V}:callF (pgc own) (d+2) 67 [.tup [.tup [.str [101,110,100,32,114,111,117,110,100],b,.int a],rest],.int a,nm,.str s,p,h] H=some (.none,H) :=
  call_ret rfl rfl (s_seq (s_asg0 (r_loc rfl) (t_tup0 rfl (t_cons0 t_loc0 (t_cons0 t_loc0 t_nil0)))) (s_seq (s_asg0 (r_idx (r_loc rfl) r_lit rfl) t_loc0) (s_seq (s_if_f (r_cmp (r_loc rfl) (r_tup (r_cons r_lit (r_cons r_lit (r_cons r_lit (r_cons r_lit (r_cons r_lit r_nil)))))) rfl) s_nil0) (s_stop (s_if_t (r_cmp (r_slice (r_loc rfl) r_lit r_lit r_lit rfl) r_lit rfl) (s_stop (s_ret0 (r_call r_glob (r_cons (r_loc rfl) (r_cons (r_loc rfl) (r_cons (r_loc rfl) (r_cons (r_loc rfl) (r_cons (r_loc rfl) (r_cons (r_loc rfl) (r_cons (r_loc rfl) r_nil))))))) (call_ret rfl rfl (s_seq (s_asg0 (r_loc rfl) (t_tup0 rfl (t_cons0 t_loc0 (t_cons0 t_loc0 (t_cons0 t_loc0 t_nil0))))) (s_seq (s_if_f (r_cmp (r_loc rfl) r_lit rfl) s_nil0) (s_seq (s_if_f (r_cmp (r_loc rfl) r_lit rfl) s_nil0) (s_stop (s_ret0 (r_ife_t (r_cmp (r_loc rfl) (r_loc rfl) (c_eqI (i:=a) (j:=a) (q:=true) (decide_eq_true rfl))) r_lit)))))))))))))))
theorem adv_er_t {b:V} (hn:n≠a):callF (pgc own) (d+2) 67 [.tup [.tup [.str [101,110,100,32,114,111,117,110,100],b,.int n],rest],.int a,nm,.str s,p,h] H=some (.tup [.tup [b,rest],.int a,nm],H) :=
  call_ret rfl rfl (s_seq (s_asg0 (r_loc rfl) (t_tup0 rfl (t_cons0 t_loc0 (t_cons0 t_loc0 t_nil0)))) (s_seq (s_asg0 (r_idx (r_loc rfl) r_lit rfl) t_loc0) (s_seq (s_if_f (r_cmp (r_loc rfl) (r_tup (r_cons r_lit (r_cons r_lit (r_cons r_lit (r_cons r_lit (r_cons r_lit r_nil)))))) rfl) s_nil0) (s_stop (s_if_t (r_cmp (r_slice (r_loc rfl) r_lit r_lit r_lit rfl) r_lit rfl) (s_stop (s_ret0 (r_call r_glob (r_cons (r_loc rfl) (r_cons (r_loc rfl) (r_cons (r_loc rfl) (r_cons (r_loc rfl) (r_cons (r_loc rfl) (r_cons (r_loc rfl) (r_cons (r_loc rfl) r_nil))))))) (call_ret rfl rfl (s_seq (s_asg0 (r_loc rfl) (t_tup0 rfl (t_cons0 t_loc0 (t_cons0 t_loc0 (t_cons0 t_loc0 t_nil0))))) (s_seq (s_if_f (r_cmp (r_loc rfl) r_lit rfl) s_nil0) (s_seq (s_if_f (r_cmp (r_loc rfl) r_lit rfl) s_nil0) (s_stop (s_ret0 (r_ife_f (r_cmp (r_loc rfl) (r_loc rfl) (c_eqI (i:=a) (j:=n) (q:=false) (decide_eq_false fun q=>hn (Int.ofNat_inj.mp q).symm))) (r_tup (r_cons (r_tup (r_cons (r_loc rfl) (r_cons (r_loc rfl) r_nil))) (r_cons (r_loc rfl) (r_cons (r_loc rfl) r_nil)))))))))))))))))))
section
variable {h:Nat} {v:V} {H2:Hp} {r:V}
theorem adv_en (e:callF (pgc own) (d+1) 62 [.loc h,r,.str ((s.take a).drop n)] H=some (.bool true,H2)) (hh:∃ fs,H[h]? = some (.inst 4 fs)):callF (pgc own) (d+3) 67 [.tup [.tup [.str [101,110,100,32,110,111,119],r,.int n],rest],.int a,nm,.str s,p,.loc h] H=some (.tup [rest,.int a,nm],H2):=by
  obtain⟨fs,hh⟩:=hh
  exact call_ret rfl rfl (s_seq (s_asg0 (r_loc rfl) (t_tup0 rfl (t_cons0 t_loc0 (t_cons0 t_loc0 t_nil0)))) (s_seq (s_asg0 (r_idx (r_loc rfl) r_lit rfl) t_loc0) (s_seq (s_if_f (r_cmp (r_loc rfl) (r_tup (r_cons r_lit (r_cons r_lit (r_cons r_lit (r_cons r_lit (r_cons r_lit r_nil)))))) rfl) s_nil0) (s_stop (s_if_t (r_cmp (r_slice (r_loc rfl) r_lit r_lit r_lit rfl) r_lit rfl) (s_stop (s_ret0 (r_call r_glob (r_cons (r_loc rfl) (r_cons (r_loc rfl) (r_cons (r_loc rfl) (r_cons (r_loc rfl) (r_cons (r_loc rfl) (r_cons (r_loc rfl) (r_cons (r_loc rfl) r_nil))))))) (call_ret rfl rfl (s_seq (s_asg0 (r_loc rfl) (t_tup0 rfl (t_cons0 t_loc0 (t_cons0 t_loc0 (t_cons0 t_loc0 t_nil0))))) (s_seq (s_if_f (r_cmp (r_loc rfl) r_lit rfl) s_nil0) (s_stop (s_if_t (r_cmp (r_loc rfl) r_lit rfl) (s_stop (s_ret0 (r_ife_t (r_meth (r_loc rfl) hh rfl rfl (r_cons (r_loc rfl) (r_cons (r_slice (r_loc rfl) (r_loc rfl) (r_loc rfl) r_lit ((by rfl))) r_nil)) e) (r_tup (r_cons (r_loc rfl) (r_cons (r_loc rfl) (r_cons (r_loc rfl) r_nil))))))))))))))))))))
end
theorem totext_ok {v:V} (hv:TxV v t):callF (pgc own) (d+2) 21 [v] H=some (.str t,H):=by
  cases hv with
  | str=>exact call_ret rfl rfl (s_stop (s_if_t (r_isin (r_loc rfl) rfl) (s_stop (s_ret0 (r_loc rfl)))))
theorem patof_ok {v:V} (hv:TxV v t):callF (pgc own) (d+3) 25 [v] H=some (.tup [.str [99,104,97,114,115],.str t],H):=by
  have h1:isV v (.cls 6)=some false:=by cases hv <;> rfl
  have h2:isV v (.cls 7)=some false:=by cases hv <;> rfl
  exact call_ret rfl rfl (s_seq (s_if_f (r_isin (r_loc rfl) h1) s_nil0) (s_seq (s_if_f (r_isin (r_loc rfl) h2) s_nil0) (s_seq (s_asg0 (r_call r_glob (r_cons (r_loc rfl) r_nil) (totext_ok hv)) t_loc0) (s_seq (s_if_f (r_cmp (r_loc rfl) r_lit rfl) s_nil0) (s_stop (s_ret0 (r_tup (r_cons r_lit (r_cons (r_loc rfl) r_nil)))))))))
theorem adv_dly {h:Nat} {k:List Nat} {v s at':V} (e:callF (pgc own) (d+1) 61 [.loc h,.tup [.str [110,97,109,101],.str k]] H=some (v,H)) (hv:TxV v t) (hh:∃ fs,H[h]? = some (.inst 4 fs)):callF (pgc own) (d+4) 67 [.tup [.tup [.str [100,101,108,97,121],.tup [.str [110,97,109,101],.str k]],rest],at',nm,s,p,.loc h] H=some (.tup [.tup [.tup [.str [99,104,97,114,115],.str t],rest],at',nm],H):=by
  obtain⟨fs,hh⟩:=hh
  have h1:isV v (.cls 5)=some false:=by cases hv <;> rfl
  exact call_ret rfl rfl (s_seq (s_asg0 (r_loc rfl) (t_tup0 rfl (t_cons0 t_loc0 (t_cons0 t_loc0 t_nil0)))) (s_seq (s_asg0 (r_idx (r_loc rfl) r_lit rfl) t_loc0) (s_seq (s_if_f (r_cmp (r_loc rfl) (r_tup (r_cons r_lit (r_cons r_lit (r_cons r_lit (r_cons r_lit (r_cons r_lit r_nil)))))) rfl) s_nil0) (s_seq (s_if_f (r_cmp (r_slice (r_loc rfl) r_lit r_lit r_lit rfl) r_lit rfl) s_nil0) (s_seq (s_if_f (r_cmp (r_loc rfl) r_lit rfl) s_nil0) (s_stop (s_if_t (r_cmp (r_loc rfl) r_lit rfl) (s_seq (s_asg0 (r_meth (r_loc rfl) hh rfl rfl (r_cons (r_idx (r_loc rfl) r_lit rfl) r_nil) e) t_loc0) (s_stop (s_ret0 (r_ife_f (r_call r_glob (r_cons (r_loc rfl) r_nil) (call_ret rfl rfl (s_stop (s_ret0 (r_isin (r_loc rfl) h1))))) (r_tup (r_cons (r_tup (r_cons (r_call r_glob (r_cons (r_loc rfl) r_nil) (patof_ok hv)) (r_cons (r_loc rfl) r_nil))) (r_cons (r_loc rfl) (r_cons (r_loc rfl) r_nil)))))))))))))))
end
set_option genCtorIdx false in
inductive Nd where
  | sg (x:Sg) | ca (a b:Nd) | rp (n:Nd) | nw (n:Nd) (r:Nat) | arb | dly (k:List Nat)
inductive Im where
  | nd (n:Nd) | en (r b:Nat) | er (n:Nd) (b:Nat)
noncomputable abbrev Nm:=List (Nat×List Nat)
noncomputable def nV:Nd→V
  | .sg x=>sgV x
  | .ca a b=>.tup [.str [99,97,116],nV a,nV b]
  | .rp n=>.tup [.str [97,114,98,110,111],nV n]
  | .nw n r=>.tup [.str [110,111,119],nV n,.loc r]
  | .arb=>.tup [.str [97,114,98]]
  | .dly k=>.tup [.str [100,101,108,97,121],.tup [.str [110,97,109,101],.str k]]
noncomputable def iV:Im→V
  | .nd n=>nV n
  | .en r b=>.tup [.str [101,110,100,32,110,111,119],.loc r,.int b]
  | .er n b=>.tup [.str [101,110,100,32,114,111,117,110,100],nV (.rp n),.int b]
noncomputable def cV:List Im→V
  | []=>.none
  | i::r=>.tup [iV i,cV r]
noncomputable def nmL (l:Nm):List V:=l.map fun x=>.tup [.loc x.1,.str x.2]
structure Wy where
  c:List Im
  a:Nat
  nm:Nm
noncomputable def wV (w:Option Wy):V:=match w with
  | some w=>.tup [cV w.c,.int w.a,.tup (nmL w.nm)]
  | none=>.none
structure Hs where
  vals:List (List Nat×V)
  log:List V
noncomputable def asgn (σ:Hs) (k:List Nat) (v:V):Hs:=⟨putS k v σ.vals,σ.log++[.tup [.str k,v]]⟩
inductive Adv where
  | go (c:List Im) (a:Nat) (nm:Nm) (σ:Hs) (ps:List (Option Wy)) | no
inductive Res where
  | met (a:Nat) (nm:Nm) | non | lost
section
variable (kp:Nat→Option (List Nat)) (s:List Nat)
inductive AdvR:Im→List Im→Nat→Nm→Hs→Adv→Prop where
  | sgt {x r a nm σ e}:sgE s a x=some e→AdvR (.nd (.sg x)) r a nm σ (.go r e nm σ [])
  | sgf {x r a nm σ}:sgE s a x=none→AdvR (.nd (.sg x)) r a nm σ .no
  | ca {x y r a nm σ}:AdvR (.nd (.ca x y)) r a nm σ (.go (.nd x::.nd y::r) a nm σ [])
  | rp {x r a nm σ}:AdvR (.nd (.rp x)) r a nm σ (.go r a nm σ [some ⟨.nd x::.er x a::r,a,nm⟩])
  | nw {x q r a nm σ}:AdvR (.nd (.nw x q)) r a nm σ (.go (.nd x::.en q a::r) a nm σ [])
  | arbt {r a nm σ}:a<s.length→AdvR (.nd .arb) r a nm σ (.go r a nm σ [some ⟨.nd .arb::r,a+1,nm⟩])
  | arbf {r a nm σ}:¬ a<s.length→AdvR (.nd .arb) r a nm σ (.go r a nm σ [])
  | dly {k t r a nm σ}:TxV ((lookS k σ.vals).getD (.str [])) t→AdvR (.nd (.dly k)) r a nm σ (.go (.nd (.sg (.ch t))::r) a nm σ [])
  | en {q b k r a nm σ}:kp q=some k→AdvR (.en q b) r a nm σ (.go r a nm (asgn σ k (.str ((s.take a).drop b))) [])
  | erf {x r a nm σ}:AdvR (.er x a) r a nm σ .no
  | ert {x b r a nm σ}:b≠a→AdvR (.er x b) r a nm σ (.go (.nd (.rp x)::r) a nm σ [])
inductive Tr:List Im→Nat→Nm→Hs→List (Option Wy)→Nat→Res→Hs→Nat→Prop where
  | met {a nm σ L k}:Tr [] a nm σ L k (.met a nm) σ k
  | go {i r a nm σ L k R τ k' c' a' nm' σ' ps}:AdvR kp s i r a nm σ (.go c' a' nm' σ' ps)→Tr c' a' nm' σ' (L++ps) (k+1) R τ k'→Tr (i::r) a nm σ L k R τ k'
  | pop {i r a nm σ L k R τ k' w}:AdvR kp s i r a nm σ .no→Tr w.c w.a w.nm σ L (k+1) R τ k'→Tr (i::r) a nm σ (L++[some w]) k R τ k'
  | non {i r a nm σ k}:AdvR kp s i r a nm σ .no→Tr (i::r) a nm σ [] k .non σ (k+1)
  | lost {i r a nm σ L k}:AdvR kp s i r a nm σ .no→Tr (i::r) a nm σ (L++[none]) k .lost σ (k+1)
end
section
variable {kp:Nat→Option (List Nat)} {s:List Nat}
theorem Tr.mono {c:List Im} {a:Nat} {nm:Nm} {σ τ:Hs} {L:List (Option Wy)} {k k':Nat} {R:Res} (T:Tr kp s c a nm σ L k R τ k'):k≤k':=by
  induction T with
  | met=>exact Nat.le_refl _
  | go _ _ ih=>exact Nat.le_of_succ_le ih
  | pop _ _ ih=>exact Nat.le_of_succ_le ih
  | _=>exact Nat.le_succ _
end
noncomputable def ksOf (es:List (List Nat×V)):List (List Nat):=es.map (·.1)
theorem nd_len {α:Type} [DecidableEq α]:∀(l K:List α),l.Nodup→(∀ x∈l,x∈K)→l.length≤K.length
  | [],K,_,_=>Nat.zero_le _
  | a::r,K,hn,hs=>by
    obtain⟨h1,h2⟩:=List.nodup_cons.mp hn
    have ha:=hs a (.head _)
    have:=nd_len r (K.erase a) h2 fun x hx=>(List.mem_erase_of_ne (fun e=>h1 (by rw [← e]; exact hx))).mpr (hs x (.tail _ hx))
    rw [List.length_erase_of_mem ha] at this
    have hp:=List.length_pos_of_mem ha
    rw [List.length_cons]; omega
theorem putS_keys (k:List Nat) (v:V):∀ es:List (List Nat×V),ksOf (putS k v es)=if k∈ksOf es then ksOf es else ksOf es++[k]
  | []=>rfl
  | (j,u)::r=>by
    rw [putS_2]
    cases h:j == k with
    | true =>
      cases beq_iff_eq.mp h
      rw [if_pos rfl]
      exact(if_pos (show k∈k::ksOf r from List.mem_cons_self ..)).symm
    | false =>
      have hne:k≠j:=fun e=>by rw [e,beq_self_eq_true] at h; cases h
      rw [if_neg (by decide)]
      show j::ksOf (putS k v r)=if k∈j::ksOf r then j::ksOf r else(j::ksOf r)++[k]
      rw [putS_keys k v r]
      by_cases hm:k∈ksOf r
      · rw [if_pos hm,if_pos (.tail _ hm)]
      · rw [if_neg hm,if_neg (fun q=>(List.mem_cons.mp q).elim hne hm)]; rfl
structure Kd (K:List (List Nat)) (es:List (List Nat×V)):Prop where
  nd:(ksOf es).Nodup
  sub:∀ x∈ksOf es,x∈K
theorem Kd.put {K:List (List Nat)} {es:List (List Nat×V)} (h:Kd K es) {k:List Nat} (hk:k∈K) (v:V):Kd K (putS k v es):=by
  by_cases hm:k∈ksOf es
  · exact⟨by rw [putS_keys,if_pos hm]; exact h.nd,by rw [putS_keys,if_pos hm]; exact h.sub⟩
  · refine⟨?_,?_⟩
    · rw [putS_keys,if_neg hm]
      exact List.nodup_append.mpr ⟨h.nd,List.nodup_cons.mpr ⟨List.not_mem_nil,.nil⟩,fun a ha b hb e=>hm (by rw [List.mem_singleton.mp hb] at e; exact e▸ha)⟩
    · rw [putS_keys,if_neg hm]
      exact fun x hx=>(List.mem_append.mp hx).elim (h.sub x) fun q=>by rw [List.mem_singleton.mp q]; exact hk
theorem Kd.len {K:List (List Nat)} {es:List (List Nat×V)} (h:Kd K es):es.length≤K.length:=by
  have:=nd_len _ K h.nd h.sub
  rwa [ksOf,List.length_map] at this
structure TS (kp:Nat→Option (List Nat)) (H0:Hp) (p h va rf lg:Nat) (m:Int) (L:List V) (k:Nat) (σ:Hs) (H:Hp):Prop where
  len:H0.length≤H.length
  pile:H[p]? = some (.list L)
  host:H[h]? = some (hostO (.loc va) (.loc rf) (.loc lg) m k)
  vals:H[va]? = some (.dict σ.vals)
  log:H[lg]? = some (.list σ.log)
  ref:H[rf]? = some (.list [])
  rk:∀ r key,kp r=some key→H[r]? = some (nrO key)
  off:∀ i,i<H0.length→i≠p→i≠h→i≠va→i≠lg→H[i]? = H0[i]?
  n1:p≠lg
  n2:rf≠p
  n3:rf≠lg
theorem ob_ne {H:Hp} {i j:Nat} {x y:O} (h1:H[i]? = some x) (h2:H[j]? = some y) (h:x≠y):i≠j:=fun e=>h (Option.some.inj (h1.symm.trans (e▸h2)))
section
variable {kp:Nat→Option (List Nat)} {own:List FI} {d:Nat} {H H0:Hp} {p h va rf lg:Nat} {m:Int} {L:List V} {k:Nat} {σ:Hs} {s:List Nat}
theorem TS.m1 (t:TS kp H0 p h va rf lg m L k σ H):p≠h:=ob_ne t.pile t.host (fun e=>by cases e)
theorem TS.m2 (t:TS kp H0 p h va rf lg m L k σ H):p≠va:=ob_ne t.pile t.vals (fun e=>by cases e)
theorem TS.m3 (t:TS kp H0 p h va rf lg m L k σ H):h≠va:=ob_ne t.host t.vals (fun e=>by cases e)
theorem TS.m4 (t:TS kp H0 p h va rf lg m L k σ H):h≠lg:=ob_ne t.host t.log (fun e=>by cases e)
theorem TS.m5 (t:TS kp H0 p h va rf lg m L k σ H):va≠lg:=ob_ne t.vals t.log (fun e=>by cases e)
theorem TS.m6 (t:TS kp H0 p h va rf lg m L k σ H):rf≠h:=ob_ne t.ref t.host (fun e=>by cases e)
theorem TS.m7 (t:TS kp H0 p h va rf lg m L k σ H):rf≠va:=ob_ne t.ref t.vals (fun e=>by cases e)
theorem TS.step (t:TS kp H0 p h va rf lg m L k σ H):TS kp H0 p h va rf lg m L (k+1) σ (H.set h (hostO (.loc va) (.loc rf) (.loc lg) m (k+1))) :=
  { t with
    len:=by rw [List.length_set]; exact t.len
    pile:=set_off t.m1.symm t.pile,host:=set_at t.host,vals:=set_off t.m3 t.vals,log:=set_off t.m4 t.log,ref:=set_off t.m6.symm t.ref
    rk:=fun r key e=>set_off (ob_ne t.host (t.rk r key e) (fun e=>by cases e)) (t.rk r key e)
    off:=fun i h1 h2 h3 h4 h5=>set_off h3.symm (t.off i h1 h2 h3 h4 h5) }
theorem TS.push (t:TS kp H0 p h va rf lg m L k σ H) (L':List V):TS kp H0 p h va rf lg m L' k σ (H.set p (.list L')) :=
  { t with
    len:=by rw [List.length_set]; exact t.len
    pile:=set_at t.pile,host:=set_off t.m1 t.host,vals:=set_off t.m2 t.vals,log:=set_off t.n1 t.log,ref:=set_off t.n2.symm t.ref
    rk:=fun r key e=>set_off (ob_ne t.pile (t.rk r key e) (fun e=>by cases e)) (t.rk r key e)
    off:=fun i h1 h2 h3 h4 h5=>set_off h2.symm (t.off i h1 h2 h3 h4 h5) }
theorem TS.asg (t:TS kp H0 p h va rf lg m L k σ H) (key:List Nat) (v:V):TS kp H0 p h va rf lg m L k (asgn σ key v) ((H.set va (.dict (putS key v σ.vals))).set lg (.list (σ.log++[.tup [.str key,v]]))) :=
  { t with
    len:=by rw [List.length_set,List.length_set]; exact t.len
    pile:=set_off t.n1.symm (set_off t.m2.symm t.pile),host:=set_off t.m4.symm (set_off t.m3.symm t.host),vals:=set_off t.m5.symm (set_at t.vals),log:=set_at (set_off t.m5 t.log),ref:=set_off t.n3.symm (set_off t.m7.symm t.ref)
    rk:=fun r key e=>set_off (ob_ne t.log (t.rk r key e) (fun e=>by cases e)) (set_off (ob_ne t.vals (t.rk r key e) (fun e=>by cases e)) (t.rk r key e))
    off:=fun i h1 h2 h3 h4 h5=>set_off h5.symm (set_off h4.symm (t.off i h1 h2 h3 h4 h5)) }
theorem map_snoc {α β:Type} (f:α→β) (l:List α) (x:α):(l++[x]).map f=l.map f++[f x]:=by rw [List.map_append]; rfl
noncomputable def advV (A:Adv):V:=match A with
  | .go c a nm _ _=>.tup [cV c,.int a,.tup (nmL nm)]
  | .no=>.none
noncomputable def advL (A:Adv) (L:List V):List V:=match A with
  | .go _ _ _ _ ps=>L++ps.map wV
  | .no=>L
noncomputable def advS (A:Adv) (σ:Hs):Hs:=match A with
  | .go _ _ _ σ' _=>σ'
  | .no=>σ
structure Lm (L:List V) (nm:Nm) (σ:Hs):Prop where
  l:L.length<lim
  n:nm.length+1≤lim
  v:σ.vals.length<1024
  g:σ.log.length<lim
inductive AdE (own:List FI) (d:Nat) (kp:Nat→Option (List Nat)) (s:List Nat) (H0:Hp) (p h va rf lg:Nat) (m:Int) (L:List V) (k:Nat) (σ:Hs) (H:Hp) (i:Im) (r:List Im) (a:Nat) (nm:Nm) (A:Adv):Prop where
  | mk (H':Hp) (e:callF (pgc own) (d+6) 67 [.tup [iV i,cV r],.int a,.tup (nmL nm),.str s,.loc p,.loc h] H=some (advV A,H')) (t:TS kp H0 p h va rf lg m (advL A L) k (advS A σ) H'):AdE own d kp s H0 p h va rf lg m L k σ H i r a nm A
theorem TS.same (t:TS kp H0 p h va rf lg m L k σ H):TS kp H0 p h va rf lg m (L++([]:List (Option Wy)).map wV) k σ H:=by rw [List.map_nil,List.append_nil]; exact t
theorem TS.asg_ok (t:TS kp H0 p h va rf lg m L k σ H) (hes:σ.vals.length<1024) (hll:σ.log.length<lim) {q:Nat} {key:List Nat} (hk:kp q=some key) (v:V) (d:Nat):callF (pgc own) (d+1) 62 [.loc h,.loc q,v] H=some (.bool true,(H.set va (.dict (putS key v σ.vals))).set lg (.list (σ.log++[.tup [.str key,v]]))) :=
  assign_ok t.host (t.rk q key hk) t.ref t.vals hes t.log hll t.m3.symm (ob_ne t.vals (t.rk q key hk) (fun e=>by cases e)) t.m5
theorem adv_ok (hs:s.length<1048576) {i:Im} {r:List Im} {a:Nat} {nm:Nm} {A:Adv} (X:AdvR kp s i r a nm σ A) (t:TS kp H0 p h va rf lg m L k σ H) (b:Lm L nm σ):AdE own d kp s H0 p h va rf lg m L k σ H i r a nm A:=by
  cases X with
  | sgt e=>exact⟨H,adv_sg (taken_t hs e),t.same⟩
  | sgf e=>exact⟨H,adv_sg (taken_f hs e),t⟩
  | ca=>exact⟨H,adv_cat,t.same⟩
  | rp=>exact⟨_,adv_rp t.pile b.l,t.push _⟩
  | nw=>exact⟨H,adv_now,t.same⟩
  | arbt e=>exact⟨_,adv_arb (taken_arb_t t.pile b.l e),t.push _⟩
  | arbf e=>exact⟨H,adv_arb (taken_arb_f e),t.same⟩
  | dly e=>exact⟨H,adv_dly (value_ok t.host t.vals) e ⟨_,t.host⟩,t.same⟩
  | en e=>exact⟨_,adv_en (t.asg_ok b.v b.g e _ _) ⟨_,t.host⟩,(t.asg _ _).same⟩
  | erf=>exact⟨H,adv_er_f,t⟩
  | ert e=>exact⟨H,adv_er_t e,t.same⟩
noncomputable def tO:ME:=(.cmp .gt (.prim .len [(.loc 4)]) (.lit (.int 0)))
noncomputable def bO:List MS:=[(.asg (.loc 5) (.bmeth (.loc 4) .pop [])),(.ife (.cmp .is (.loc 5) (.lit .none)) [(.ret (.glob (.str [108,111,115,116])))] []),(.asg (.tup [(.loc 6),(.loc 7),(.loc 8)]) (.loc 5)),(.whl (.cmp .isnot (.loc 6) (.lit .none)) [(.expr (.meth (.loc 3) 118 [])),(.asg (.loc 5) (.call (.glob (.fn 67)) [(.loc 6),(.loc 7),(.loc 8),(.loc 1),(.loc 4),(.loc 3)])),(.ife (.cmp .is (.loc 5) (.lit .none)) [.brk] []),(.ife (.cmp .eq (.loc 5) (.glob (.str [108,111,115,116]))) [(.ret (.glob (.str [108,111,115,116])))] []),(.asg (.tup [(.loc 6),(.loc 7),(.loc 8)]) (.loc 5))]),(.ife (.cmp .is (.loc 6) (.lit .none)) [(.ret (.tup [(.loc 7),(.prim .list [(.loc 8)])]))] [])]
noncomputable def tI:ME:=(.cmp .isnot (.loc 6) (.lit .none))
noncomputable def bI:List MS:=[(.expr (.meth (.loc 3) 118 [])),(.asg (.loc 5) (.call (.glob (.fn 67)) [(.loc 6),(.loc 7),(.loc 8),(.loc 1),(.loc 4),(.loc 3)])),(.ife (.cmp .is (.loc 5) (.lit .none)) [.brk] []),(.ife (.cmp .eq (.loc 5) (.glob (.str [108,111,115,116]))) [(.ret (.glob (.str [108,111,115,116])))] []),(.asg (.tup [(.loc 6),(.loc 7),(.loc 8)]) (.loc 5))]
noncomputable def bF:List MS:=[(.ife (.cmp .is (.loc 6) (.lit .none)) [(.ret (.tup [(.loc 7),(.prim .list [(.loc 8)])]))] [])]
noncomputable def outK (g:Lo→Hp→SR) (x:SR):SR:=match x with
  | some (Fl.next,l,H)=>g l H
  | some (Fl.cont,l,H)=>g l H
  | some (Fl.brk,l,H)=>some (Fl.next,l,H)
  | some (Fl.ret v,l,H)=>some (Fl.ret v,l,H)
  | none=>none
theorem wn_q {tv:Lo→Hp→Option (V×Hp)} {bd:Lo→Hp→SR} {n:Nat} {l:Lo} {H H1:Hp} (h1:tv l H=some (.bool true,H1)):whlN tv bd (n+1) l H=outK (whlN tv bd n) (bd l H1):=by
  rw [whlN_2,bnd_eq h1]; rfl
noncomputable def seqK (g:Lo→Hp→SR) (x:SR):SR:=match x with | some (Fl.next,l,H)=>g l H | x=>x
noncomputable abbrev tl (nd bg:V) (s:List Nat) (h p:Nat) (w:Option V) (c a nm:V):Lo:=[some nd,some (.str s),some bg,some (.loc h),some (.loc p),w,some c,some a,some nm]
theorem in_next {nd bg i r a nm c' a' n':V} {w:Option V} {va rf lg:V} {k:Int} {H2:Hp} (hh:H[h]? = some (hostO va rf lg m k)) (hk:k<m) (ha:callF (pgc own) (d+6) 67 [.tup [i,r],a,nm,.str s,.loc p,.loc h] (H.set h (hostO va rf lg m (k+1)))=some (.tup [c',a',n'],H2)) :
    exB (pgc own) (callF (pgc own) (d+6)) bI (tl nd bg s h p w (.tup [i,r]) a nm) H=some (.next,tl nd bg s h p (some (.tup [c',a',n'])) c' a' n',H2) :=
  s_seq (s_expr0 (r_meth (r_loc rfl) hh rfl rfl r_nil (step_ok hh hk))) (s_seq (s_asg0 (r_call r_glob (r_cons (r_loc rfl) (r_cons (r_loc rfl) (r_cons (r_loc rfl) (r_cons (r_loc rfl) (r_cons (r_loc rfl) (r_cons (r_loc rfl) r_nil)))))) ha) t_loc0) (s_seq (s_if_f (r_cmp (r_loc rfl) r_lit rfl) s_nil0) (s_seq (s_if_f (r_cmp (r_loc rfl) r_glob rfl) s_nil0) (s_seq (s_asg0 (r_loc rfl) (t_tup0 rfl (t_cons0 t_loc0 (t_cons0 t_loc0 (t_cons0 t_loc0 t_nil0))))) s_nil0))))
theorem in_brk {nd bg i r a nm:V} {w:Option V} {va rf lg:V} {k:Int} {H2:Hp} (hh:H[h]? = some (hostO va rf lg m k)) (hk:k<m) (ha:callF (pgc own) (d+6) 67 [.tup [i,r],a,nm,.str s,.loc p,.loc h] (H.set h (hostO va rf lg m (k+1)))=some (.none,H2)) :
    exB (pgc own) (callF (pgc own) (d+6)) bI (tl nd bg s h p w (.tup [i,r]) a nm) H=some (.brk,tl nd bg s h p (some .none) (.tup [i,r]) a nm,H2) :=
  s_seq (s_expr0 (r_meth (r_loc rfl) hh rfl rfl r_nil (step_ok hh hk))) (s_seq (s_asg0 (r_call r_glob (r_cons (r_loc rfl) (r_cons (r_loc rfl) (r_cons (r_loc rfl) (r_cons (r_loc rfl) (r_cons (r_loc rfl) (r_cons (r_loc rfl) r_nil)))))) ha) t_loc0) (s_stop_b (s_if_t (r_cmp (r_loc rfl) r_lit rfl) (s_stop_b s_brk0))))
theorem out_pop {nd bg:V} {w x y z:Option V} {c a nm:V} (hp:H[p]? = some (.list (L++[.tup [c,a,nm]]))) :
    exB (pgc own) (callF (pgc own) (d+6)) bO [some nd,some (.str s),some bg,some (.loc h),some (.loc p),w,x,y,z] H=seqK (exB (pgc own) (callF (pgc own) (d+6)) bF) (whlN (evE (pgc own) (callF (pgc own) (d+6)) tI) (exB (pgc own) (callF (pgc own) (d+6)) bI) 1048576 (tl nd bg s h p (some (.tup [c,a,nm])) c a nm) (H.set p (.list L))) :=
  s_seq (s_asg0 (r_bm (r_loc rfl) (g_kindL hp rfl) r_nil (g_pop hp)) t_loc0) (s_seq (s_if_f (r_cmp (r_loc rfl) r_lit rfl) s_nil0) (s_seq (s_asg0 (r_loc rfl) (t_tup0 rfl (t_cons0 t_loc0 (t_cons0 t_loc0 (t_cons0 t_loc0 t_nil0))))) rfl))
theorem out_lost {nd bg:V} {w x y z:Option V} (hp:H[p]? = some (.list (L++[.none]))) :
    exB (pgc own) (callF (pgc own) (d+6)) bO [some nd,some (.str s),some bg,some (.loc h),some (.loc p),w,x,y,z] H=some (.ret (.str [108,111,115,116]),[some nd,some (.str s),some bg,some (.loc h),some (.loc p),some .none,x,y,z],H.set p (.list L)) :=
  s_seq (s_asg0 (r_bm (r_loc rfl) (g_kindL hp rfl) r_nil (g_pop hp)) t_loc0) (s_stop (s_if_t (r_cmp (r_loc rfl) r_lit rfl) (s_stop (s_ret0 r_glob))))
theorem fin_t {nd bg:V} {w:Option V} {a:V} {nm:List V} :
    exB (pgc own) (callF (pgc own) (d+6)) bF (tl nd bg s h p w .none a (.tup nm)) H=some (.ret (.tup [a,.loc H.length]),tl nd bg s h p w .none a (.tup nm),H++[.list nm]) :=
  s_stop (s_if_t (r_cmp (r_loc rfl) r_lit (by rfl)) (s_stop (s_ret0 (r_tup (r_cons (r_loc rfl) (r_cons (r_prim (r_cons (r_loc rfl) r_nil) (by rfl)) r_nil))))))
theorem fin_f {nd bg:V} {w:Option V} {a nm i r:V} :
    exB (pgc own) (callF (pgc own) (d+6)) bF (tl nd bg s h p w (.tup [i,r]) a nm) H=some (.next,tl nd bg s h p w (.tup [i,r]) a nm,H):=by kernel_rfl
theorem tO_t {nd bg:V} {w x y z:Option V} {v:V} (hp:H[p]? = some (.list (L++[v]))):evE (pgc own) (callF (pgc own) (d+6)) tO [some nd,some (.str s),some bg,some (.loc h),some (.loc p),w,x,y,z] H=some (.bool true,H) :=
  r_cmp (r_prim (r_cons (r_loc rfl) r_nil) (g_len hp)) r_lit (c_gt_t (by rw [List.length_append]; exact Int.natCast_pos.mpr (Nat.succ_pos _)))
theorem tO_f {nd bg:V} {w x y z:Option V} (hp:H[p]? = some (.list [])):evE (pgc own) (callF (pgc own) (d+6)) tO [some nd,some (.str s),some bg,some (.loc h),some (.loc p),w,x,y,z] H=some (.bool false,H) :=
  r_cmp (r_prim (r_cons (r_loc rfl) r_nil) (g_len hp)) r_lit (by rfl)
theorem tI_t {nd bg:V} {w:Option V} {a nm i r:V}:evE (pgc own) (callF (pgc own) (d+6)) tI (tl nd bg s h p w (.tup [i,r]) a nm) H=some (.bool true,H):=by kernel_rfl
theorem tI_f {nd bg:V} {w:Option V} {a nm:V}:evE (pgc own) (callF (pgc own) (d+6)) tI (tl nd bg s h p w .none a nm) H=some (.bool false,H):=by kernel_rfl
noncomputable def resS (R:Res) (l:Lo) (H:Hp):SR:=match R with
  | .met a nm=>some (.ret (.tup [.int a,.loc H.length]),l,H++[.list (nmL nm)])
  | .non=>some (.next,l,H)
  | .lost=>some (.ret (.str [108,111,115,116]),l,H)
noncomputable def XX (own:List FI) (d f F:Nat) (l:Lo) (H:Hp):SR:=outK (whlN (evE (pgc own) (callF (pgc own) (d+6)) tO) (exB (pgc own) (callF (pgc own) (d+6)) bO) F) (seqK (exB (pgc own) (callF (pgc own) (d+6)) bF) (whlN (evE (pgc own) (callF (pgc own) (d+6)) tI) (exB (pgc own) (callF (pgc own) (d+6)) bI) f l H))
theorem XX_next {f F:Nat} {nd bg i r a nm c' a' n':V} {w:Option V} {H2:Hp} (t:TS kp H0 p h va rf lg m L k σ H) (hk:(k:Int)<m) (ha:callF (pgc own) (d+6) 67 [.tup [i,r],a,nm,.str s,.loc p,.loc h] (H.set h (hostO (.loc va) (.loc rf) (.loc lg) m (k+1)))=some (.tup [c',a',n'],H2)) :
    XX own d (f+1) F (tl nd bg s h p w (.tup [i,r]) a nm) H=XX own d f F (tl nd bg s h p (some (.tup [c',a',n'])) c' a' n') H2 :=
  congrArg (fun z=>outK _ (seqK _ z)) (wn_next tI_t (in_next t.host hk ha) rfl)
theorem XX_brk {f F:Nat} {nd bg i r a nm:V} {w:Option V} {H2:Hp} (t:TS kp H0 p h va rf lg m L k σ H) (hk:(k:Int)<m) (ha:callF (pgc own) (d+6) 67 [.tup [i,r],a,nm,.str s,.loc p,.loc h] (H.set h (hostO (.loc va) (.loc rf) (.loc lg) m (k+1)))=some (.none,H2)) :
    XX own d (f+1) F (tl nd bg s h p w (.tup [i,r]) a nm) H=whlN (evE (pgc own) (callF (pgc own) (d+6)) tO) (exB (pgc own) (callF (pgc own) (d+6)) bO) F (tl nd bg s h p (some .none) (.tup [i,r]) a nm) H2:=by
  refine(congrArg (fun z=>outK _ (seqK _ z)) (wn_brk tI_t (in_brk t.host hk ha))).trans ?_
  exact congrArg (outK _) (fin_f (own:=own) (d:=d))
structure Nu (m:Int) (k k' f F:Nat):Prop where
  le:(k':Int)≤m
  f:k'<k+f
  F:k'<k+F
theorem Nu.step {m:Int} {k k' f F:Nat} (n:Nu m k k' f F) (h:k+1≤k'):∃ g,f=g+1∧(k:Int)<m∧Nu m (k+1) k' g F:=by
  obtain⟨a,b,c⟩:=n
  exact⟨f - 1,by omega,by omega,a,by omega,by exact Nat.not_le.mp (lin [_,_,_] (.c 1 (.a (.v 0) (.n 1)) (.a (.v 1) (.v 2)) (.c 1 (.a (.a (.v 1) (.n 1)) (.v 2)) (.v 0) .z)) rfl c)⟩
theorem Nu.pop {m:Int} {k k' f F:Nat} (n:Nu m k k' f F) (h:k+1≤k') (hm:m<100000):∃ g G,f=g+1∧F=G+1∧(k:Int)<m∧Nu m (k+1) k' 1048576 G:=by
  obtain⟨a,b,c⟩:=n
  exact⟨f - 1,F - 1,by omega,by omega,by omega,a,by omega,by omega⟩
structure Bd (K:List (List Nat)) (j k:Nat) (L:List (Option Wy)) (nm:Nm) (σ:Hs):Prop where
  l:L.length≤k
  n:nm.length≤k
  w:∀ w∈L,∀ z,w=some z→z.nm.length≤k
  g:σ.log.length≤j+k
  v:Kd K σ.vals
section
variable {K:List (List Nat)} {j:Nat} {L:List (Option Wy)} {nm:Nm} {w:Wy}
theorem Bd.pop (b:Bd K j k (L++[some w]) nm σ):Bd K j (k+1) L w.nm σ :=
  ⟨Nat.le_succ_of_le (Nat.le_trans (by rw [List.length_append]; exact Nat.le_add_right ..) b.l),Nat.le_succ_of_le (b.w _ (List.mem_append_right _ (.head _)) w rfl),fun w h z e=>Nat.le_succ_of_le (b.w w (List.mem_append_left _ h) z e),Nat.le_succ_of_le b.g,b.v⟩
theorem Bd.nil (b:Bd K j k L nm σ):Bd K j (k+1) (L++[]) nm σ:=by rw [List.append_nil]; exact⟨Nat.le_succ_of_le b.l,Nat.le_succ_of_le b.n,fun w h z e=>Nat.le_succ_of_le (b.w w h z e),Nat.le_succ_of_le b.g,b.v⟩
theorem Bd.one (b:Bd K j k L nm σ) {x:Option Wy} (hx:∀ z,x=some z→z.nm=nm):Bd K j (k+1) (L++[x]) nm σ :=
  ⟨by rw [List.length_append]; exact Nat.succ_le_succ b.l,Nat.le_succ_of_le b.n,fun w h z e=>(List.mem_append.mp h).elim (fun h=>Nat.le_succ_of_le (b.w w h z e)) (fun h=>by rw [hx z ((List.mem_singleton.mp h).symm.trans e)]; exact Nat.le_succ_of_le b.n),Nat.le_succ_of_le b.g,b.v⟩
theorem asgn_len (σ:Hs) (key:List Nat) (v:V):(asgn σ key v).log.length=σ.log.length+1:=by show(σ.log++_).length=_; rw [List.length_append]; rfl
theorem Bd.asg (b:Bd K j k L nm σ) {key:List Nat} {v:V} (e:key∈K):Bd K j (k+1) (L++[]) nm (asgn σ key v) :=
  ⟨b.nil.l,b.nil.n,b.nil.w,by rw [asgn_len]; exact Nat.succ_le_succ b.g,b.v.put e v⟩
noncomputable def BdP (K:List (List Nat)) (j k:Nat) (L:List (Option Wy)):Adv→Prop
  | .go _ _ nm σ ps=>Bd K j k (L++ps) nm σ
  | .no=>True
theorem Bd.goP (hK:∀ q key,kp q=some key→key∈K) {i:Im} {r:List Im} {a:Nat} {A:Adv} (X:AdvR kp s i r a nm σ A):Bd K j k L nm σ→BdP K j (k+1) L A:=by
  cases X with
  | rp=>exact fun b=>b.one fun z e=>by cases e; rfl
  | arbt=>exact fun b=>b.one fun z e=>by cases e; rfl
  | en e=>exact fun b=>b.asg (hK _ _ e)
  | sgf=>exact fun _=>trivial
  | erf=>exact fun _=>trivial
  | _=>exact Bd.nil
theorem Bd.go (hK:∀ q key,kp q=some key→key∈K) (b:Bd K j k L nm σ) {i:Im} {r c':List Im} {a a':Nat} {nm':Nm} {σ':Hs} {ps:List (Option Wy)} (X:AdvR kp s i r a nm σ (.go c' a' nm' σ' ps)):Bd K j (k+1) (L++ps) nm' σ':=Bd.goP hK X b
theorem Bd.lm (b:Bd K j k L nm σ) (hk:(k:Int)<m) (hm:m<100000) (hj:j≤100000) (hK:K.length<1024):Lm (L.map wV) nm σ:=by
  have h1:=b.l
  have h2:=b.n
  have h3:=b.g
  exact⟨by rw [List.length_map]; unfold lim; omega,by unfold lim; omega,Nat.lt_of_le_of_lt b.v.len hK,by unfold lim; omega⟩
end
inductive TrEnd (x:SR) (R:Res) (kp:Nat→Option (List Nat)) (H0:Hp) (p h va rf lg:Nat) (m:Int) (τ:Hs) (k':Nat):Prop where
  | mk (l':Lo) (H':Hp) (e:x=resS R l' H') (L':List V) (t:TS kp H0 p h va rf lg m L' k' τ H'):TrEnd x R kp H0 p h va rf lg m τ k'
noncomputable def TrOk (own:List FI) (d:Nat) (kp:Nat→Option (List Nat)) (s:List Nat) (K:List (List Nat)) (j:Nat) (H0:Hp) (p h va rf lg:Nat) (m:Int) (c:List Im) (a:Nat) (nm:Nm) (σ:Hs) (L:List (Option Wy)) (k:Nat) (R:Res) (τ:Hs) (k':Nat):Prop :=
  ∀ ⦃H:Hp⦄ ⦃nd bg:V⦄ ⦃w:Option V⦄ ⦃f F:Nat⦄,TS kp H0 p h va rf lg m (L.map wV) k σ H→Nu m k k' f F→Bd K j k L nm σ→TrEnd (XX own d f F (tl nd bg s h p w (cV c) (.int a) (.tup (nmL nm))) H) R kp H0 p h va rf lg m τ k'
theorem tr_run (hs:s.length<1048576) {K:List (List Nat)} {j:Nat} (hj:j≤100000) (hK:∀ q key,kp q=some key→key∈K) (hKl:K.length<1024) (hm:m<100000) {c:List Im} {a:Nat} {nm:Nm} {L:List (Option Wy)} {R:Res} {τ:Hs} {k':Nat} (T:Tr kp s c a nm σ L k R τ k'):TrOk own d kp s K j H0 p h va rf lg m c a nm σ L k R τ k':=by
  induction T with
  | met =>
    intro H nd bg w f F t n b
    obtain⟨f,rfl⟩:∃ g,f=g+1:=Nat.exists_eq_add_one.mpr (by have:=n.f; exact Nat.not_le.mp (lin [_,_] (.c 1 (.a (.v 0) (.n 1)) (.a (.v 0) (.v 1)) (.c 1 (.v 1) (.n 0) .z)) rfl this))
    exact⟨_,H,(congrArg (fun z=>outK _ (seqK _ z)) (wn_end tI_f)).trans (congrArg (outK _) (fin_t (own:=own) (d:=d))),_,t⟩
  | go X T ih =>
    intro H nd bg w f F t n b
    obtain⟨f,rfl,hk,n⟩:=n.step T.mono
    obtain⟨H1,e1,t1⟩:=adv_ok (own:=own) (d:=d) hs X t.step (b.lm hk hm hj hKl)
    have t1:=t1
    rw [show advL _ _=List.map wV _++List.map wV _ from rfl,← List.map_append] at t1
    obtain⟨l',H',e,L',q⟩:=ih t1 n (b.go hK X)
    exact⟨l',H',(XX_next t hk e1).trans e,L',q⟩
  | @pop i r a nm σ L k R τ k' w0 X T ih =>
    intro H nd bg w f F t n b
    obtain⟨f,F,rfl,rfl,hk,n⟩:=n.pop T.mono hm
    obtain⟨H1,e1,t1⟩:=adv_ok (own:=own) (d:=d) hs X t.step (b.lm hk hm hj hKl)
    rw [show advL .no (List.map wV (L++[some w0]))=_ from map_snoc ..] at t1
    obtain⟨l',H',e,L',q⟩:=ih (t1.push (L.map wV)) n b.pop
    exact⟨l',H',(XX_brk t hk e1).trans ((wn_q (tO_t t1.pile)).trans ((congrArg (outK _) (out_pop t1.pile)).trans e)),L',q⟩
  | non X =>
    intro H nd bg w f F t n b
    obtain⟨f,F,rfl,rfl,hk,n⟩:=n.pop (Nat.le_refl _) hm
    obtain⟨H1,e1,t1⟩:=adv_ok (own:=own) (d:=d) hs X t.step (b.lm hk hm hj hKl)
    exact⟨_,_,(XX_brk t hk e1).trans (wn_end (tO_f t1.pile)),_,t1⟩
  | @lost i r a nm σ L k X =>
    intro H nd bg w f F t n b
    obtain⟨f,F,rfl,rfl,hk,n⟩:=n.pop (Nat.le_refl _) hm
    obtain⟨H1,e1,t1⟩:=adv_ok (own:=own) (d:=d) hs X t.step (b.lm hk hm hj hKl)
    rw [show advL .no (List.map wV (L++[none]))=_ from map_snoc ..] at t1
    exact⟨_,_,(XX_brk t hk e1).trans ((wn_q (tO_t t1.pile)).trans (congrArg (outK _) (out_lost t1.pile))),_,t1.push _⟩
end
structure HX (kp:Nat→Option (List Nat)) (h va rf lg:Nat) (m:Int) (k:Nat) (σ:Hs) (H:Hp):Prop where
  host:H[h]? = some (hostO (.loc va) (.loc rf) (.loc lg) m k)
  vals:H[va]? = some (.dict σ.vals)
  log:H[lg]? = some (.list σ.log)
  ref:H[rf]? = some (.list [])
  rk:∀ r key,kp r=some key→H[r]? = some (nrO key)
  n3:rf≠lg
structure HO (h va lg:Nat) (H H':Hp):Prop where
  len:H.length≤H'.length
  off:∀ i,i<H.length→i≠h→i≠va→i≠lg→H'[i]? = H[i]?
theorem HO.refl {h va lg:Nat} (H:Hp):HO h va lg H H:=⟨Nat.le_refl _,fun _ _ _ _ _=>rfl⟩
theorem HO.trans {h va lg:Nat} {H H1 H2:Hp} (a:HO h va lg H H1) (b:HO h va lg H1 H2):HO h va lg H H2 :=
  ⟨Nat.le_trans a.len b.len,fun i h1 h2 h3 h4=>(b.off i (Nat.lt_of_lt_of_le h1 a.len) h2 h3 h4).trans (a.off i h1 h2 h3 h4)⟩
theorem HO.app {h va lg:Nat} {H:Hp} (l:Hp):HO h va lg H (H++l):=⟨by rw [List.length_append]; exact Nat.le_add_right ..,fun i h1 _ _ _=>List.getElem?_append_left h1⟩
theorem HX.app {kp:Nat→Option (List Nat)} {h va rf lg:Nat} {m:Int} {k:Nat} {σ:Hs} {H:Hp} (x:HX kp h va rf lg m k σ H) (l:Hp):HX kp h va rf lg m k σ (H++l) :=
  ⟨app_in x.host,app_in x.vals,app_in x.log,app_in x.ref,fun r key e=>app_in (x.rk r key e),x.n3⟩
section
variable {kp:Nat→Option (List Nat)} {s:List Nat} {σ τ:Hs} {k k':Nat}
noncomputable def grP (σ:Hs):Adv→Prop
  | .go _ _ _ σ' _=>σ'.log.length≤σ.log.length+1
  | .no=>True
noncomputable def kdP (K:List (List Nat)) (σ:Hs):Adv→Prop
  | .go _ _ _ σ' _=>Kd K σ.vals→Kd K σ'.vals
  | .no=>True
theorem AdvR.gr {i:Im} {r:List Im} {a:Nat} {nm:Nm} {A:Adv} (X:AdvR kp s i r a nm σ A):grP σ A:=by
  cases X with
  | en=>exact Nat.le_of_eq (asgn_len ..)
  | sgf=>trivial
  | erf=>trivial
  | _=>exact Nat.le_succ _
theorem AdvR.kdA {K:List (List Nat)} (hK:∀ q key,kp q=some key→key∈K) {i:Im} {r:List Im} {a:Nat} {nm:Nm} {A:Adv} (X:AdvR kp s i r a nm σ A):kdP K σ A:=by
  cases X with
  | en e=>exact fun h=>h.put (hK _ _ e) _
  | sgf=>trivial
  | erf=>trivial
  | _=>exact id
theorem AdvR.grow {i:Im} {r c':List Im} {a a':Nat} {nm nm':Nm} {σ':Hs} {ps:List (Option Wy)} (X:AdvR kp s i r a nm σ (.go c' a' nm' σ' ps)):σ'.log.length≤σ.log.length+1:=X.gr
theorem AdvR.kd {K:List (List Nat)} (hK:∀ q key,kp q=some key→key∈K) {i:Im} {r c':List Im} {a a':Nat} {nm nm':Nm} {σ':Hs} {ps:List (Option Wy)} (X:AdvR kp s i r a nm σ (.go c' a' nm' σ' ps)) (h:Kd K σ.vals):Kd K σ'.vals:=X.kdA hK h
theorem Tr.grow {c:List Im} {a:Nat} {nm:Nm} {L:List (Option Wy)} {R:Res} (T:Tr kp s c a nm σ L k R τ k'):τ.log.length+k≤σ.log.length+k':=by
  induction T with
  | met=>exact Nat.le_refl _
  | go X T ih=>have:=X.grow; exact Nat.not_lt.mp (lin [_,_,_,_,_] (.c 1 (.a (.v 0) (.a (.v 1) (.n 1))) (.a (.v 2) (.v 3)) (.c 1 (.v 2) (.a (.v 4) (.n 1)) (.c 1 (.a (.a (.v 4) (.v 3)) (.n 1)) (.a (.v 0) (.v 1)) .z))) rfl ih this)
  | pop X T ih=>exact Nat.not_lt.mp (lin [_,_,_,_] (.c 1 (.a (.v 0) (.a (.v 1) (.n 1))) (.a (.v 2) (.v 3)) (.c 1 (.a (.a (.v 2) (.v 3)) (.n 1)) (.a (.v 0) (.v 1)) .z)) rfl ih)
  | _=>exact Nat.not_lt.mp (lin [_,_] (.c 1 (.a (.a (.v 0) (.a (.v 1) (.n 1))) (.n 1)) (.a (.v 0) (.v 1)) .z) rfl)
theorem Tr.kd {K:List (List Nat)} (hK:∀ q key,kp q=some key→key∈K) {c:List Im} {a:Nat} {nm:Nm} {L:List (Option Wy)} {R:Res} (T:Tr kp s c a nm σ L k R τ k'):Kd K σ.vals→Kd K τ.vals:=by
  induction T with
  | go X T ih=>exact fun h=>ih (X.kd hK h)
  | pop X T ih=>exact ih
  | _=>exact id
end
noncomputable def Rt (H:Hp) (R:Res) (v:V):Prop:=match R with
  | .met a nm=>∃ j,v=.tup [.int a,.loc j]∧H[j]? = some (.list (nmL nm))
  | .non=>v=.none
  | .lost=>v=.str [108,111,115,116]
noncomputable def Rb (H:Hp) (b:Nat) (R:Res) (v:V):Prop:=match R with
  | .met a nm=>∃ j,v=.tup [.int b,.int a,.loc j]∧H[j]? = some (.list (nmL nm))
  | .non=>v=.none
  | .lost=>v=.str [108,111,115,116]
noncomputable def R3 (lo:Nat) (H:Hp) (R:Option (Nat×Nat×Nm)) (v:V):Prop:=match R with
  | none=>v=.none
  | some (b,a,nm)=>∃ j,v=.tup [.int b,.int a,.loc j]∧H[j]? = some (.list (nmL nm))∧lo≤j
theorem R3.mono {lo lo':Nat} {H:Hp} {R:Option (Nat×Nat×Nm)} {v:V} (h:R3 lo H R v) (le:lo'≤lo):R3 lo' H R v:=by
  cases R with
  | none=>exact h
  | some z=>obtain⟨j,h1,h2,h3⟩:=h; exact⟨j,h1,h2,Nat.le_trans le h3⟩
inductive Ca (P:Pg) (d f:Nat) (vs:List V) (H:Hp) (kp:Nat→Option (List Nat)) (h va rf lg:Nat) (m:Int) (k':Nat) (τ:Hs) (Rel:Hp→V→Prop):Prop where
  | mk (v:V) (H':Hp) (e:callF P d f vs H=some (v,H')) (x:HX kp h va rf lg m k' τ H') (o:HO h va lg H H') (r:Rel H' v):Ca P d f vs H kp h va rf lg m k' τ Rel
structure Gx (kp:Nat→Option (List Nat)) (K:List (List Nat)) (s:List Nat) (m:Int) (j:Nat):Prop where
  hK:∀ q key,kp q=some key→key∈K
  kl:K.length<1024
  hm:m<100000
  hj:j≤100000
  hs:s.length<1000
section
variable {kp:Nat→Option (List Nat)} {K:List (List Nat)} {s:List Nat} {own:List FI} {d:Nat} {H:Hp} {h va rf lg:Nat} {m:Int} {k k' j:Nat} {σ τ:Hs} {n:Nd} {a:Nat} {R:Res}
theorem tried_ok (g:Gx kp K s m j) (x:HX kp h va rf lg m k σ H) (T:Tr kp s [.nd n] a [] σ [] k R τ k') (hk:(k':Int)≤m) (hl:σ.log.length≤j+k) (hv:Kd K σ.vals):Ca (pgc own) (d+7) 66 [nV n,.str s,.int a,.loc h] H kp h va rf lg m k' τ (fun H' v=>Rt H' R v):=by
  have hm:=g.hm
  have hmo:=T.mono
  let w0:Wy:=⟨[.nd n],a,[]⟩
  have t0:TS kp H H.length h va rf lg m (([]:List (Option Wy)).map wV) k σ ((H++[O.list [wV (some w0)]]).set H.length (O.list [])) :=
    { len:=by rw [List.length_set,List.length_append]; exact Nat.le_add_right ..
      pile:=set_at app_new,host:=set_off (len_ne x.host) (app_in x.host),vals:=set_off (len_ne x.vals) (app_in x.vals),log:=set_off (len_ne x.log) (app_in x.log),ref:=set_off (len_ne x.ref) (app_in x.ref)
      rk:=fun r key e=>set_off (len_ne (x.rk r key e)) (app_in (x.rk r key e))
      off:=fun i h1 _ _ _ _=>(List.getElem?_set_ne (Nat.ne_of_gt h1)).trans (List.getElem?_append_left h1)
      n1:=len_ne x.log,n2:=ne_len x.ref,n3:=x.n3 }
  obtain⟨l',H',e,L',t⟩:=tr_run (own:=own) (d:=d) (K:=K) (j:=j) (Nat.lt_trans g.hs (by decide)) g.hj g.hK g.kl hm T (nd:=nV n) (bg:=.int a) (w:=some (wV (some w0))) (f:=1048576) (F:=1048575) t0 ⟨hk,by omega,by omega⟩ ⟨Nat.zero_le _,Nat.zero_le _,(fun w h=>nomatch h),hl,hv⟩
  replace e:=(wn_q (n:=1048575) (tO_t (own:=own) (d:=d) (L:=[]) (nd:=nV n) (bg:=.int a) (s:=s) (h:=h) (w:=none) (x:=none) (y:=none) (z:=none) (v:=wV (some w0)) (app_new (H:=H)))).trans ((congrArg (outK _) (out_pop (L:=[]) app_new)).trans e)
  have hx:HX kp h va rf lg m k' τ H':=⟨t.host,t.vals,t.log,t.ref,t.rk,t.n3⟩
  have ho:HO h va lg H H':=⟨t.len,fun i h1 h2 h3 h4=>t.off i h1 (Nat.ne_of_lt h1) h2 h3 h4⟩
  cases R with
  | non=>exact⟨_,_,call_ret rfl rfl (s_seq (s_asg0 (r_lst (r_cons (r_tup (r_cons (r_tup (r_cons (r_loc rfl) (r_cons r_lit r_nil))) (r_cons (r_loc rfl) (r_cons (r_tup r_nil) r_nil)))) r_nil)) t_loc0) (s_seq (s_whl0 e) (s_stop (s_ret0 r_lit)))),hx,ho,rfl⟩
  | lost=>exact⟨_,_,call_ret rfl rfl (s_seq (s_asg0 (r_lst (r_cons (r_tup (r_cons (r_tup (r_cons (r_loc rfl) (r_cons r_lit r_nil))) (r_cons (r_loc rfl) (r_cons (r_tup r_nil) r_nil)))) r_nil)) t_loc0) (s_stop (s_whl0 e))),hx,ho,rfl⟩
  | met b nm=>exact⟨_,_,call_ret rfl rfl (s_seq (s_asg0 (r_lst (r_cons (r_tup (r_cons (r_tup (r_cons (r_loc rfl) (r_cons r_lit r_nil))) (r_cons (r_loc rfl) (r_cons (r_tup r_nil) r_nil)))) r_nil)) t_loc0) (s_stop (s_whl0 e))),hx.app _,ho.trans (.app _),_,rfl,app_new⟩
theorem match_at_ok (g:Gx kp K s m j) (x:HX kp h va rf lg m k σ H) (T:Tr kp s [.nd n] a [] σ [] k R τ k') (hk:(k':Int)≤m) (hl:σ.log.length≤j+k) (hv:Kd K σ.vals):Ca (pgc own) (d+8) 65 [nV n,.str s,.int a,.loc h] H kp h va rf lg m k' τ (fun H' v=>Rb H' a R v):=by
  obtain⟨v,H',e,hx,ho,r⟩:=tried_ok (own:=own) (d:=d) g x T hk hl hv
  cases R with
  | non =>
    cases r
    exact⟨_,H',call_ret rfl rfl (s_seq (s_asg0 (r_call r_glob (r_cons (r_loc rfl) (r_cons (r_loc rfl) (r_cons (r_loc rfl) (r_cons (r_loc rfl) r_nil)))) e) t_loc0) (s_stop (s_ret0 (r_ife_t (r_or_t (r_cmp (r_loc rfl) r_lit (by rfl))) (r_loc rfl))))),hx,ho,rfl⟩
  | lost =>
    cases r
    exact⟨_,H',call_ret rfl rfl (s_seq (s_asg0 (r_call r_glob (r_cons (r_loc rfl) (r_cons (r_loc rfl) (r_cons (r_loc rfl) (r_cons (r_loc rfl) r_nil)))) e) t_loc0) (s_stop (s_ret0 (r_ife_t (r_or (r_cmp (r_loc rfl) r_lit (by rfl)) (r_or_t (r_cmp (r_loc rfl) r_glob (by rfl)))) (r_loc rfl))))),hx,ho,rfl⟩
  | met b nm =>
    obtain⟨j,rfl,r⟩:=r
    exact⟨_,H',call_ret rfl rfl (s_seq (s_asg0 (r_call r_glob (r_cons (r_loc rfl) (r_cons (r_loc rfl) (r_cons (r_loc rfl) (r_cons (r_loc rfl) r_nil)))) e) t_loc0) (s_stop (s_ret0 (r_ife_f (r_or (r_cmp (r_loc rfl) r_lit (by rfl)) (r_or (r_cmp (r_loc rfl) r_glob (by rfl)) r_or0)) (r_tup (r_cons (r_loc rfl) (r_cons (r_idx (r_loc rfl) r_lit (by rfl)) (r_cons (r_idx (r_loc rfl) r_lit (by rfl)) r_nil)))))))),hx,ho,j,rfl,r⟩
inductive Mp (kp:Nat→Option (List Nat)) (s:List Nat) (n:Nd):Nat→Nat→Hs→Nat→Option (Nat×Nat×Nm)→Hs→Nat→Prop where
  | z {b σ k}:Mp kp s n 0 b σ k none σ k
  | met {c b σ k a nm τ k'}:Tr kp s [.nd n] b [] σ [] k (.met a nm) τ k'→Mp kp s n (c+1) b σ k (some (b,a,nm)) τ k'
  | lost {c b σ k τ k'}:Tr kp s [.nd n] b [] σ [] k .lost τ k'→Mp kp s n (c+1) b σ k none τ k'
  | non {c b σ k τ k1 R υ k'}:Tr kp s [.nd n] b [] σ [] k .non τ k1→Mp kp s n c (b+1) τ k1 R υ k'→Mp kp s n (c+1) b σ k R υ k'
theorem Mp.mono {c b:Nat} {R:Option (Nat×Nat×Nm)} (T:Mp kp s n c b σ k R τ k'):k≤k':=by
  induction T with
  | z=>exact Nat.le_refl _
  | met T=>exact T.mono
  | lost T=>exact T.mono
  | non T _ ih=>exact Nat.le_trans T.mono ih
noncomputable def bP:List MS:=[(.asg (.loc 5) (.call (.glob (.fn 65)) [(.loc 0),(.loc 1),(.loc 4),(.loc 3)])),(.ife (.cmp .isnot (.loc 5) (.lit .none)) [(.ret (.ife (.cmp .eq (.loc 5) (.glob (.str [108,111,115,116]))) (.lit .none) (.loc 5)))] [])]
inductive PlE (own:List FI) (d lo:Nat) (q:SR) (H:Hp) (kp:Nat→Option (List Nat)) (h va rf lg:Nat) (m:Int) (k':Nat) (τ:Hs) (R:Option (Nat×Nat×Nm)):Prop where
  | ret (v:V) (l:Lo) (H':Hp) (e:q=some (.ret v,l,H')) (x:HX kp h va rf lg m k' τ H') (o:HO h va lg H H') (r:R3 lo H' R v):PlE own d lo q H kp h va rf lg m k' τ R
  | nxt (l:Lo) (H':Hp) (e:q=some (.next,l,H')) (x:HX kp h va rf lg m k' τ H') (o:HO h va lg H H') (r:R=none):PlE own d lo q H kp h va rf lg m k' τ R
theorem plain_loop (g:Gx kp K s m j) {c b:Nat} {R:Option (Nat×Nat×Nm)} (T:Mp kp s n c b σ k R τ k'):∀ {f:Nat} {H:Hp} {an x y:Option V},c<f→HX kp h va rf lg m k σ H→(k':Int)≤m→σ.log.length≤j+k→Kd K σ.vals →
    PlE own d 0 (forN (.one 4) (fun l H=>exB (pgc own) (callF (pgc own) (d+8)) bP l H) f (.rng b 1 c) [some (nV n),some (.str s),an,some (.loc h),x,y] H) H kp h va rf lg m k' τ R:=by
  induction T with
  | z =>
    intro f H an x y hf hx hk hl hv
    obtain⟨f,rfl⟩:∃ g,f=g+1:=Nat.exists_eq_add_one.mpr hf
    exact .nxt _ H (fn_end rfl) hx (.refl H) rfl
  | met T =>
    intro f H an x y hf hx hk hl hv
    obtain⟨f,rfl⟩:∃ g,f=g+1:=Nat.exists_eq_add_one.mpr (Nat.lt_of_le_of_lt (Nat.zero_le _) hf)
    obtain⟨v,H',e,hx',ho,r⟩:=match_at_ok (own:=own) (d:=d) g hx T hk hl hv
    obtain⟨j,rfl,r⟩:=r
    exact .ret _ _ H' (fn_ret rfl rfl (s_seq (s_asg0 (r_call r_glob (r_cons (r_loc rfl) (r_cons (r_loc rfl) (r_cons (r_loc rfl) (r_cons (r_loc rfl) r_nil)))) e) t_loc0) (s_stop (s_if_t (r_cmp (r_loc rfl) r_lit (by rfl)) (s_stop (s_ret0 (r_ife_f (r_cmp (r_loc rfl) r_glob (by rfl)) (r_loc rfl)))))))) hx' ho ⟨j,rfl,r,Nat.zero_le _⟩
  | lost T =>
    intro f H an x y hf hx hk hl hv
    obtain⟨f,rfl⟩:∃ g,f=g+1:=Nat.exists_eq_add_one.mpr (Nat.lt_of_le_of_lt (Nat.zero_le _) hf)
    obtain⟨v,H',e,hx',ho,r⟩:=match_at_ok (own:=own) (d:=d) g hx T hk hl hv
    cases r
    exact .ret _ _ H' (fn_ret rfl rfl (s_seq (s_asg0 (r_call r_glob (r_cons (r_loc rfl) (r_cons (r_loc rfl) (r_cons (r_loc rfl) (r_cons (r_loc rfl) r_nil)))) e) t_loc0) (s_stop (s_if_t (r_cmp (r_loc rfl) r_lit (by rfl)) (s_stop (s_ret0 (r_ife_t (r_cmp (r_loc rfl) r_glob (by rfl)) r_lit))))))) hx' ho rfl
  | @non c b σ k τ k1 R υ k' T M ih =>
    intro f H an x y hf hx hk hl hv
    obtain⟨f,rfl⟩:∃ g,f=g+1:=Nat.exists_eq_add_one.mpr (Nat.lt_of_le_of_lt (Nat.zero_le _) hf)
    have hmo:=M.mono
    have hg:=T.grow
    obtain⟨v,H1,e,hx',ho,r⟩:=match_at_ok (own:=own) (d:=d) g hx T (by omega) hl hv
    cases r
    have hq:=ih (f:=f) (an:=an) (x:=some (.int b)) (y:=some .none) (Nat.lt_of_succ_lt_succ hf) hx' hk (by exact Nat.not_lt.mp (lin [_,_,_,_,_] (.c 1 (.v 0) (.a (.v 1) (.v 2)) (.c 1 (.a (.v 3) (.v 2)) (.a (.v 0) (.v 4)) (.c 1 (.a (.a (.v 1) (.v 4)) (.n 1)) (.v 3) .z))) rfl hl hg)) (T.kd g.hK hv)
    have hs:forN (.one 4) (fun l H=>exB (pgc own) (callF (pgc own) (d+8)) bP l H) (f+1) (.rng b 1 (c+1)) [some (nV n),some (.str s),an,some (.loc h),x,y] H=_:=fn_next rfl rfl (s_seq (s_asg0 (r_call r_glob (r_cons (r_loc rfl) (r_cons (r_loc rfl) (r_cons (r_loc rfl) (r_cons (r_loc rfl) r_nil)))) e) t_loc0) (s_seq (s_if_f (r_cmp (r_loc rfl) r_lit (by rfl)) s_nil0) s_nil0)) rfl
    rw [hs]
    cases hq with
    | ret v l H' e x o r=>exact .ret v l H' e x (ho.trans o) r
    | nxt l H' e x o r=>exact .nxt l H' e x (ho.trans o) r
theorem rng_nat {c:Nat}:rngLen 0 (c:Int) 1=c:=rng_up (by omega)
noncomputable def cnt (an:Bool) (s:List Nat):Nat:=bif an then 1 else s.length+1
theorem cnt_ok {an:Bool} {s:List Nat} {P:Pg} {call:CallT} {l:Lo} (h2:l[2]? = some (some (.bool an))) (h1:l[1]? = some (some (.str s))):evE P call (.ife (.loc 2) (.lit (.int 1)) (.bin .add (.prim .len [.loc 1]) (.lit (.int 1)))) l H=some (.int (cnt an s),H):=by
  cases an
  · exact r_ife_f (r_loc h2) (r_bin (r_prim (r_cons (r_loc h1) r_nil) rfl) r_lit rfl)
  · exact r_ife_t (r_loc h2) r_lit
theorem cnt_le (an:Bool) (g:Gx kp K s m j):cnt an s≤1000:=by
  have:=g.hs
  cases an <;> simp only [cnt,cond_true,cond_false] <;> omega
theorem match_plain_ok (g:Gx kp K s m j) {an:Bool} {R:Option (Nat×Nat×Nm)} (x:HX kp h va rf lg m k σ H) (T:Mp kp s n (cnt an s) 0 σ k R τ k') (hk:(k':Int)≤m) (hl:σ.log.length≤j+k) (hv:Kd K σ.vals) :
    Ca (pgc own) (d+9) 64 [nV n,.str s,.bool an,.loc h] H kp h va rf lg m k' τ (fun H' v=>R3 0 H' R v):=by
  have hc:=cnt_le an g
  have q:=plain_loop (own:=own) (d:=d) g T (f:=1048576) (an:=some (.bool an)) (x:=none) (y:=none) (by exact Nat.not_le.mp (lin [_] (.c 1 (.v 0) (.n 1000) (.c 1 (.n 1048576) (.v 0) .z)) rfl hc)) x hk hl hv
  have e0:∀ {q:SR},forN (.one 4) (fun l H=>exB (pgc own) (callF (pgc own) (d+8)) bP l H) 1048576 (.rng (0:Nat) 1 (cnt an s)) [some (nV n),some (.str s),some (.bool an),some (.loc h),none,none] H=q→exS (pgc own) (callF (pgc own) (d+8)) (.for (.one 4) (.prim .range [.ife (.loc 2) (.lit (.int 1)) (.bin .add (.prim .len [.loc 1]) (.lit (.int 1)))]) bP) [some (nV n),some (.str s),some (.bool an),some (.loc h),none,none] H=q:=fun {q} hq =>
    s_for0 (r_prim (r_cons (cnt_ok rfl rfl) r_nil) (p_range1 (by omega))) (i_rng (by decide) (by omega) (.inl rfl)) (by rw [rng_nat]; exact hq)
  cases q with
  | ret v l H' e x o r=>exact⟨v,H',call_ret rfl rfl (s_stop (e0 e)),x,o,r⟩
  | nxt l H' e x o r=>subst r; exact⟨.none,H',call_ret rfl rfl (s_seq (e0 e) (s_stop (s_ret0 r_lit))),x,o,rfl⟩
end
noncomputable def sgO (x:Sg):V:=match x with
  | .ch t=>.str t
  | .len n=>.int n
  | .rpos n=>.int n
theorem g_setN {H:Hp} {c k:Nat} {fs:List (Nat×V)} {v:V}:setA (H++[.inst c fs]) (.loc H.length) k v=some (H++[.inst c (putN k v fs)]):=by
  rw [g_setA app_new,List.set_append_right _ _ (Nat.le_refl _),Nat.sub_self]; rfl
noncomputable abbrev wayO (o pc a:Nat) (nm mk ca:V):O:=.inst 2 [(0,.loc o),(1,.int pc),(2,.int a),(3,nm),(4,mk),(5,ca)]
noncomputable abbrev wayN:O:=.inst 2 [(0,.none),(1,.int 0),(2,.int 0),(3,.none),(4,.none),(5,.none)]
noncomputable abbrev matO (s:List Nat) (h q:Nat):O:=.inst 3 [(6,.str s),(7,.loc h),(8,.loc q)]
section
variable {own:List FI} {d:Nat} {H H2:Hp} {h mo q o wl pc a:Nat} {va rf lg nm mk ca r:V} {m k:Int} {s:List Nat} {x:Sg} {e:Nat}
theorem isv_sgO (x:Sg):isV (sgO x) .tuple=some false:=by cases x <;> rfl
theorem plain2_ok (hs:s.length<1048576):∀ x:Sg,callF (pgc own) (d+4) 44 [.tup [.str (sgK x),sgO x],.str s,.int a] H=some (oV' (sgE s a x),H)
  | .ch t=>plain_ok hs (.ch t)
  | .len t=>plain_ok hs (.len t)
  | .rpos t=>plain_ok hs (.rpos t)
theorem way_init {v0 v1 v2 v3 v4 v5:V}:callF (pgc own) (d+1) 46 [.loc H.length,v0,v1,v2,v3,v4,v5] (H++[.inst 2 []])=some (.none,H++[.inst 2 [(0,v0),(1,v1),(2,v2),(3,v3),(4,v4),(5,v5)]]) :=
  call_next rfl rfl (s_seq (s_asg0 (r_loc rfl) (t_attr0 (r_loc rfl) g_setN)) (s_seq (s_asg0 (r_loc rfl) (t_attr0 (r_loc rfl) g_setN)) (s_seq (s_asg0 (r_loc rfl) (t_attr0 (r_loc rfl) g_setN)) (s_seq (s_asg0 (r_loc rfl) (t_attr0 (r_loc rfl) g_setN)) (s_seq (s_asg0 (r_loc rfl) (t_attr0 (r_loc rfl) g_setN)) (s_seq (s_asg0 (r_loc rfl) (t_attr0 (r_loc rfl) g_setN)) s_nil0))))))
theorem copied_ok {g:Nat} (hw:H[wl]? = some (wayO o pc a nm mk ca)):callF (pgc own) (d+2) 47 [.loc wl,.int g] H=some (.loc H.length,H++[wayO o g a nm mk ca]) :=
  call_ret rfl rfl (s_stop (s_ret0 (r_new (r_cons (r_attr (r_loc rfl) (g_inst hw rfl)) (r_cons (r_loc rfl) (r_cons (r_attr (r_loc rfl) (g_inst hw rfl)) (r_cons (r_attr (r_loc rfl) (g_inst hw rfl)) (r_cons (r_attr (r_loc rfl) (g_inst hw rfl)) (r_cons (r_attr (r_loc rfl) (g_inst hw rfl)) r_nil)))))) rfl way_init)))
theorem back_t {L:List V} {v:V} (hm:H[mo]? = some (matO s h q)) (hq:H[q]? = some (.list (L++[v]))):callF (pgc own) (d+1) 50 [.loc mo] H=some (v,H.set q (.list L)) :=
  call_ret rfl rfl (s_stop (s_ret0 (r_ife_t (r_cmp (r_prim (r_cons (r_attr (r_loc rfl) (g_inst hm rfl)) r_nil) (g_len hq)) r_lit (c_gt_t (by rw [List.length_append]; exact Int.natCast_pos.mpr (Nat.succ_pos _)))) (r_bm (r_attr (r_loc rfl) (g_inst hm rfl)) (g_kindL hq rfl) r_nil (g_pop hq)))))
theorem back_f (hm:H[mo]? = some (matO s h q)) (hq:H[q]? = some (.list [])):callF (pgc own) (d+1) 50 [.loc mo] H=some (.none,H) :=
  call_ret rfl rfl (s_stop (s_ret0 (r_ife_f (r_cmp (r_prim (r_cons (r_attr (r_loc rfl) (g_inst hm rfl)) r_nil) (g_len hq)) r_lit rfl) r_lit)))
theorem once_t (hs:s.length<1048576) (hm:H[mo]? = some (matO s h q)) (hw:H[wl]? = some (wayO o pc a nm mk ca)) (he:sgE s a x=some e):callF (pgc own) (d+5) 52 [.loc mo,.tup [.str [111,110,101],.str (sgK x),sgO x],.loc wl] H=some (.bool true,H.set wl (wayO o (pc+1) e nm mk ca)) :=
  Eq.trans (b:=some (V.bool true,(H.set wl (wayO o pc e nm mk ca)).set wl (wayO o (pc+1) e nm mk ca))) (call_ret rfl rfl (s_seq (s_asg0 (r_idx (r_loc rfl) r_lit rfl) t_loc0) (s_seq (s_if_f (r_isin (r_loc rfl) (isv_sgO x)) s_nil0) (s_seq (s_asg0 (r_call r_glob (r_cons (r_tup (r_cons (r_idx (r_loc rfl) r_lit rfl) (r_cons (r_loc rfl) r_nil))) (r_cons (r_attr (r_loc rfl) (g_inst hm rfl)) (r_cons (r_attr (r_loc rfl) (g_inst hw rfl)) r_nil))) ((plain2_ok hs x).trans (congrArg (fun z=>some (oV' z,H)) he))) t_loc0) (s_seq (s_if_f (r_cmp (r_loc rfl) r_lit rfl) s_nil0) (s_seq (s_asg0 (r_loc rfl) (t_attr0 (r_loc rfl) (g_setA hw))) (s_seq (s_auga0 (r_loc rfl) (g_inst (set_at hw) rfl) r_lit rfl (g_setA (set_at hw))) (s_stop (s_ret0 r_lit))))))))) (by rw [List.set_set])
theorem once_f (hs:s.length<1048576) (hm:H[mo]? = some (matO s h q)) (hw:H[wl]? = some (wayO o pc a nm mk ca)) (he:sgE s a x=none):callF (pgc own) (d+5) 52 [.loc mo,.tup [.str [111,110,101],.str (sgK x),sgO x],.loc wl] H=some (.bool false,H) :=
  call_ret rfl rfl (s_seq (s_asg0 (r_idx (r_loc rfl) r_lit rfl) t_loc0) (s_seq (s_if_f (r_isin (r_loc rfl) (isv_sgO x)) s_nil0) (s_seq (s_asg0 (r_call r_glob (r_cons (r_tup (r_cons (r_idx (r_loc rfl) r_lit rfl) (r_cons (r_loc rfl) r_nil))) (r_cons (r_attr (r_loc rfl) (g_inst hm rfl)) (r_cons (r_attr (r_loc rfl) (g_inst hw rfl)) r_nil))) ((plain2_ok hs x).trans (congrArg (fun z=>some (oV' z,H)) he))) t_loc0) (s_stop (s_if_t (r_cmp (r_loc rfl) r_lit rfl) (s_stop (s_ret0 r_lit)))))))
theorem done_one {b:Bool} (hm:H[mo]? = some (matO s h q)) (e:callF (pgc own) (d+5) 52 [.loc mo,.tup [.str [111,110,101],.str (sgK x),sgO x],.loc wl] H=some (.bool b,H2)):callF (pgc own) (d+6) 51 [.loc mo,.tup [.str [111,110,101],.str (sgK x),sgO x],.loc wl] H=some (.bool b,H2) :=
  call_ret rfl rfl (s_seq (s_asg0 (r_idx (r_loc rfl) r_lit rfl) t_loc0) (s_stop (s_if_t (r_cmp (r_loc rfl) r_glob rfl) (s_stop (s_ret0 (r_meth (r_loc rfl) hm rfl rfl (r_cons (r_loc rfl) (r_cons (r_loc rfl) r_nil)) e))))))
theorem done_split {L:List V} {g:Nat} (hm:H[mo]? = some (matO s h q)) (hw:H[wl]? = some (wayO o pc a nm mk ca)) (hq:H[q]? = some (.list L)) (hl:L.length<lim) (hne:wl≠q):callF (pgc own) (d+6) 51 [.loc mo,.tup [.str [115,112,108,105,116],.int g],.loc wl] H=some (.bool true,((H++[wayO o g a nm mk ca]).set q (.list (L++[.loc H.length]))).set wl (wayO o (pc+1) a nm mk ca)) :=
  call_ret rfl rfl (s_seq (s_asg0 (r_idx (r_loc rfl) r_lit (by rfl)) t_loc0) (s_seq (s_if_f (r_cmp (r_loc rfl) r_glob (by rfl)) s_nil0) (s_seq (s_if_t (r_cmp (r_loc rfl) r_glob (by rfl)) (s_seq (s_expr0 (r_bm (r_attr (r_loc rfl) (g_inst hm rfl)) (g_kindL hq rfl) (r_cons (r_meth (r_loc rfl) hw rfl rfl (r_cons (r_idx (r_loc rfl) r_lit rfl) r_nil) (copied_ok hw)) r_nil) (g_append (app_in hq) hl))) s_nil0)) (s_seq (s_auga0 (r_loc rfl) (g_inst (set_off hne.symm (app_in hw)) rfl) r_lit rfl (g_setA (set_off hne.symm (app_in hw)))) (s_stop (s_ret0 r_lit))))))
theorem done_jump {g:Nat} (hw:H[wl]? = some (wayO o pc a nm mk ca)):callF (pgc own) (d+6) 51 [.loc mo,.tup [.str [106,117,109,112],.int g],.loc wl] H=some (.bool true,H.set wl (wayO o g a nm mk ca)) :=
  call_ret rfl rfl (s_seq (s_asg0 (r_idx (r_loc rfl) r_lit (by rfl)) t_loc0) (s_seq (s_if_f (r_cmp (r_loc rfl) r_glob (by rfl)) s_nil0) (s_stop (s_if_f (r_cmp (r_loc rfl) r_glob (by rfl)) (s_stop (s_if_t (r_cmp (r_loc rfl) r_glob (by rfl)) (s_seq (s_asg0 (r_idx (r_loc rfl) r_lit (by rfl)) (t_attr0 (r_loc rfl) (g_setA (by solve_by_elim [app_new,set_at,set_off,app_in,ne_len,len_ne,Ne.symm])))) (s_stop (s_ret0 r_lit)))))))))
theorem done_mark (hw:H[wl]? = some (wayO o pc a nm mk ca)):callF (pgc own) (d+6) 51 [.loc mo,.tup [.str [109,97,114,107]],.loc wl] H=some (.bool true,H.set wl (wayO o (pc+1) a nm (.tup [mk,.int a]) ca)) :=
  Eq.trans (b:=some (V.bool true,(H.set wl (wayO o pc a nm (.tup [mk,.int a]) ca)).set wl (wayO o (pc+1) a nm (.tup [mk,.int a]) ca))) (call_ret rfl rfl (s_seq (s_asg0 (r_idx (r_loc rfl) r_lit (by rfl)) t_loc0) (s_seq (s_if_f (r_cmp (r_loc rfl) r_glob (by rfl)) s_nil0) (s_seq (s_if_f (r_cmp (r_loc rfl) r_glob (by rfl)) (s_seq (s_if_f (r_cmp (r_loc rfl) r_glob (by rfl)) (s_seq (s_if_t (r_cmp (r_loc rfl) r_glob (by rfl)) (s_seq (s_asg0 (r_tup (r_cons (r_attr (r_loc rfl) (by exact g_inst (by solve_by_elim [app_new,set_at,set_off,app_in,ne_len,len_ne,Ne.symm]) rfl)) (r_cons (r_attr (r_loc rfl) (by exact g_inst (by solve_by_elim [app_new,set_at,set_off,app_in,ne_len,len_ne,Ne.symm]) rfl)) r_nil))) (t_attr0 (r_loc rfl) (g_setA (by solve_by_elim [app_new,set_at,set_off,app_in,ne_len,len_ne,Ne.symm])))) s_nil0)) s_nil0)) s_nil0)) (s_seq (s_auga0 (r_loc rfl) (by exact g_inst (by solve_by_elim [app_new,set_at,set_off,app_in,ne_len,len_ne,Ne.symm]) rfl) r_lit (by rfl) (g_setA (by solve_by_elim [app_new,set_at,set_off,app_in,ne_len,len_ne,Ne.symm]))) (s_stop (s_ret0 r_lit))))))) (by rw [List.set_set])
theorem ended_set {b:Nat} (hm:H[mo]? = some (matO s h q)) (hw:H[wl]? = some (wayO o pc a nm (.tup [mk,.int b]) ca)) (hne:mo≠wl) (e:callF (pgc own) (d+4) 62 [.loc h,r,.str ((s.take a).drop b)] (H.set wl (wayO o pc a nm mk ca))=some (.bool true,H2)) (hh:∃ fs,H[h]? = some (.inst 4 fs)) (hn:h≠wl):callF (pgc own) (d+5) 53 [.loc mo,.tup [.str [115,101,116],r],.loc wl] H=some (.bool true,H2):=by
  obtain⟨fs,hh⟩:=hh
  exact call_ret rfl rfl (s_seq (s_asg0 (r_attr (r_loc rfl) (by exact g_inst (by solve_by_elim [app_new,set_at,set_off,app_in,ne_len,len_ne,Ne.symm]) rfl)) (t_tup0 (by rfl) (t_cons0 t_loc0 (t_cons0 t_loc0 t_nil0)))) (s_seq (s_asg0 (r_loc rfl) (t_attr0 (r_loc rfl) (g_setA (by solve_by_elim [app_new,set_at,set_off,app_in,ne_len,len_ne,Ne.symm])))) (s_seq (s_asg0 (r_slice (r_attr (r_loc rfl) (by exact g_inst (by solve_by_elim [app_new,set_at,set_off,app_in,ne_len,len_ne,Ne.symm]) rfl)) (r_loc rfl) (r_attr (r_loc rfl) (by exact g_inst (by solve_by_elim [app_new,set_at,set_off,app_in,ne_len,len_ne,Ne.symm]) rfl)) r_lit (by rfl)) t_loc0) (s_seq (s_if_f (r_cmp (r_idx (r_loc rfl) r_lit (by rfl)) r_glob (by rfl)) s_nil0) (s_stop (s_if_t (r_cmp (r_idx (r_loc rfl) r_lit (by rfl)) r_glob (by rfl)) (s_stop (s_ret0 (r_meth (r_attr (r_loc rfl) (g_inst (set_off hne.symm hm) rfl)) (set_off hn.symm hh) rfl rfl (r_cons (r_idx (r_loc rfl) r_lit rfl) (r_cons (r_loc rfl) r_nil)) e)))))))))
theorem ended_gain {b:Nat} (hm:H[mo]? = some (matO s h q)) (hw:H[wl]? = some (wayO o pc a nm (.tup [mk,.int b]) ca)) (hne:mo≠wl) {g:Bool} (hg:decide (b<a)=g):callF (pgc own) (d+5) 53 [.loc mo,.tup [.str [103,97,105,110]],.loc wl] H=some (.bool g,H.set wl (wayO o pc a nm mk ca)) :=
  call_ret rfl rfl (s_seq (s_asg0 (r_attr (r_loc rfl) (by exact g_inst (by solve_by_elim [app_new,set_at,set_off,app_in,ne_len,len_ne,Ne.symm]) rfl)) (t_tup0 (by rfl) (t_cons0 t_loc0 (t_cons0 t_loc0 t_nil0)))) (s_seq (s_asg0 (r_loc rfl) (t_attr0 (r_loc rfl) (g_setA (by solve_by_elim [app_new,set_at,set_off,app_in,ne_len,len_ne,Ne.symm])))) (s_seq (s_asg0 (r_slice (r_attr (r_loc rfl) (by exact g_inst (by solve_by_elim [app_new,set_at,set_off,app_in,ne_len,len_ne,Ne.symm]) rfl)) (r_loc rfl) (r_attr (r_loc rfl) (by exact g_inst (by solve_by_elim [app_new,set_at,set_off,app_in,ne_len,len_ne,Ne.symm]) rfl)) r_lit (by rfl)) t_loc0) (s_stop (s_if_t (r_cmp (r_idx (r_loc rfl) r_lit (by rfl)) r_glob (by rfl)) (s_stop (s_ret0 (r_cmp (r_attr (r_loc rfl) (by exact g_inst (by solve_by_elim [app_new,set_at,set_off,app_in,ne_len,len_ne,Ne.symm]) rfl)) (r_loc rfl) (c_gtN hg)))))))))
theorem done_ended {w:List Nat} {tl:List V} {nm2 mk2 ca2:V} {pc2 a2 o2:Nat} (hw1:([[110,97,109,101],[115,101,116],[103,97,105,110]]:List (List Nat)).any (· == w)=true) (hw2:(w == [111,110,101])=false) (hw3:(w == [115,112,108,105,116])=false) (hw4:(w == [106,117,109,112])=false) (hw5:(w == [109,97,114,107])=false) (hm:H[mo]? = some (matO s h q)) (e:callF (pgc own) (d+5) 53 [.loc mo,.tup (.str w::tl),.loc wl] H=some (.bool true,H2)) (hw6:H2[wl]? = some (wayO o2 pc2 a2 nm2 mk2 ca2)):callF (pgc own) (d+6) 51 [.loc mo,.tup (.str w::tl),.loc wl] H=some (.bool true,H2.set wl (wayO o2 (pc2+1) a2 nm2 mk2 ca2)) :=
  call_ret rfl rfl (s_seq (s_asg0 (r_idx (r_loc rfl) r_lit rfl) t_loc0) (s_seq (s_if_f (r_cmp (r_loc rfl) r_glob (c_seq hw2)) s_nil0) (s_seq (s_if_f (r_cmp (r_loc rfl) r_glob (c_seq hw3)) (s_seq (s_if_f (r_cmp (r_loc rfl) r_glob (c_seq hw4)) (s_seq (s_if_f (r_cmp (r_loc rfl) r_glob (c_seq hw5)) (s_seq (s_if_t (r_cmp (r_loc rfl) (r_tup (r_cons r_glob (r_cons r_glob (r_cons r_glob r_nil)))) (congrArg some hw1)) (s_seq (s_if_f (r_not (r_meth (r_loc rfl) hm rfl rfl (r_cons (r_loc rfl) (r_cons (r_loc rfl) r_nil)) e)) s_nil0) s_nil0)) s_nil0)) s_nil0)) s_nil0)) (s_seq (s_auga0 (r_loc rfl) (g_inst hw6 rfl) r_lit rfl (g_setA hw6)) (s_stop (s_ret0 r_lit))))))
theorem done_gain_f (hm:H[mo]? = some (matO s h q)) (e:callF (pgc own) (d+5) 53 [.loc mo,.tup [.str [103,97,105,110]],.loc wl] H=some (.bool false,H2)):callF (pgc own) (d+6) 51 [.loc mo,.tup [.str [103,97,105,110]],.loc wl] H=some (.bool false,H2) :=
  call_ret rfl rfl (s_seq (s_asg0 (r_idx (r_loc rfl) r_lit rfl) t_loc0) (s_seq (s_if_f (r_cmp (r_loc rfl) r_glob rfl) s_nil0) (s_stop (s_if_f (r_cmp (r_loc rfl) r_glob rfl) (s_stop (s_if_f (r_cmp (r_loc rfl) r_glob rfl) (s_stop (s_if_f (r_cmp (r_loc rfl) r_glob rfl) (s_stop (s_if_t (r_cmp (r_loc rfl) (r_tup (r_cons r_glob (r_cons r_glob (r_cons r_glob r_nil)))) rfl) (s_stop (s_if_t (r_not (r_meth (r_loc rfl) hm rfl rfl (r_cons (r_loc rfl) (r_cons (r_loc rfl) r_nil)) e)) (s_stop (s_ret0 r_lit))))))))))))))
theorem done_other {w:List Nat} {tl:List V} {b:Bool} (hw1:([[110,97,109,101],[115,101,116],[103,97,105,110]]:List (List Nat)).any (· == w)=false) (hw2:(w == [111,110,101])=false) (hw3:(w == [115,112,108,105,116])=false) (hw4:(w == [106,117,109,112])=false) (hw5:(w == [109,97,114,107])=false) (hw6:(w == [112,108,97,99,101])=false) (hm:H[mo]? = some (matO s h q)) (e:callF (pgc own) (d+5) 54 [.loc mo,.tup (.str w::tl),.loc wl] H=some (.bool b,H2)):callF (pgc own) (d+6) 51 [.loc mo,.tup (.str w::tl),.loc wl] H=some (.bool b,H2) :=
  call_ret rfl rfl (s_seq (s_asg0 (r_idx (r_loc rfl) r_lit rfl) t_loc0) (s_seq (s_if_f (r_cmp (r_loc rfl) r_glob (c_seq hw2)) s_nil0) (s_stop (s_if_f (r_cmp (r_loc rfl) r_glob (c_seq hw3)) (s_stop (s_if_f (r_cmp (r_loc rfl) r_glob (c_seq hw4)) (s_stop (s_if_f (r_cmp (r_loc rfl) r_glob (c_seq hw5)) (s_stop (s_if_f (r_cmp (r_loc rfl) (r_tup (r_cons r_glob (r_cons r_glob (r_cons r_glob r_nil)))) (congrArg some hw1)) (s_stop (s_if_f (r_cmp (r_loc rfl) r_glob (c_seq hw6)) (s_stop (s_ret0 (r_meth (r_loc rfl) hm rfl rfl (r_cons (r_loc rfl) (r_cons (r_loc rfl) r_nil)) e)))))))))))))))
theorem oth_done {ca2:V} {o2 pc2:Nat} (hw:H[wl]? = some (wayO o pc a nm mk (.tup [ca2,.tup [.loc o2,.int pc2]]))):callF (pgc own) (d+5) 54 [.loc mo,.tup [.str [100,111,110,101]],.loc wl] H=some (.bool true,H.set wl (wayO o2 pc2 a nm mk ca2)) :=
  Eq.trans (b:=some (V.bool true,((H.set wl (wayO o pc a nm mk ca2)).set wl (wayO o2 pc a nm mk ca2)).set wl (wayO o2 pc2 a nm mk ca2))) (call_ret rfl rfl (s_seq (s_asg0 (r_idx (r_loc rfl) r_lit (by rfl)) t_loc0) (s_seq (s_if_f (r_cmp (r_loc rfl) r_glob (by rfl)) s_nil0) (s_seq (s_if_f (r_cmp (r_loc rfl) r_glob (by rfl)) s_nil0) (s_seq (s_if_f (r_cmp (r_loc rfl) r_glob (by rfl)) s_nil0) (s_stop (s_if_t (r_cmp (r_loc rfl) r_glob (by rfl)) (s_seq (s_asg0 (r_attr (r_loc rfl) (by exact g_inst (by solve_by_elim [app_new,set_at,set_off,app_in,ne_len,len_ne,Ne.symm]) rfl)) (t_tup0 (by rfl) (t_cons0 (t_attr0 (r_loc rfl) (g_setA (by solve_by_elim [app_new,set_at,set_off,app_in,ne_len,len_ne,Ne.symm]))) (t_cons0 (t_tup0 (by rfl) (t_cons0 (t_attr0 (r_loc rfl) (g_setA (by solve_by_elim [app_new,set_at,set_off,app_in,ne_len,len_ne,Ne.symm]))) (t_cons0 (t_attr0 (r_loc rfl) (g_setA (by solve_by_elim [app_new,set_at,set_off,app_in,ne_len,len_ne,Ne.symm]))) t_nil0))) t_nil0)))) (s_stop (s_ret0 r_lit)))))))))) (by rw [List.set_set,List.set_set])
theorem asked_ok {t:List Nat} {v:V} {o2:Nat} {H3:Hp} {key:List Nat} (hm:H[mo]? = some (matO s h q)) (hw:H[wl]? = some (wayO o pc a nm mk ca)) (hh:∃ fs,H[h]? = some (.inst 4 fs)) (e:callF (pgc own) (d+4) 61 [.loc h,.tup [.str [110,97,109,101],.str key]] H=some (v,H)) (hv:TxV v t) (ec:callF (pgc own) (d+4) 11 [.tup [.str [99,104,97,114,115],.str t]] (H.set wl (wayO o pc a nm mk (.tup [ca,.tup [.loc o,.int (pc+1:Nat)]])))=some (.loc o2,H3)) (hw3:H3[wl]? = some (wayO o pc a nm mk (.tup [ca,.tup [.loc o,.int (pc+1:Nat)]]))):callF (pgc own) (d+5) 56 [.loc mo,.tup [.str [110,97,109,101],.str key],.loc wl] H=some (.bool true,H3.set wl (wayO o2 0 a nm mk (.tup [ca,.tup [.loc o,.int (pc+1:Nat)]]))):=by
  obtain⟨fs,hh⟩:=hh
  have h1:isV v (.cls 5)=some false:=by cases hv <;> rfl
  exact Eq.trans (b:=some (V.bool true,(H3.set wl (wayO o2 pc a nm mk (.tup [ca,.tup [.loc o,.int (pc+1:Nat)]]))).set wl (wayO o2 0 a nm mk (.tup [ca,.tup [.loc o,.int (pc+1:Nat)]])))) (call_ret rfl rfl (s_seq (s_asg0 (r_meth (r_attr (r_loc rfl) (g_inst hm rfl)) hh rfl rfl (r_cons (r_loc rfl) r_nil) e) t_loc0) (s_seq (s_if_f (r_call r_glob (r_cons (r_loc rfl) r_nil) (call_ret rfl rfl (s_stop (s_ret0 (r_isin (r_loc rfl) h1))))) s_nil0) (s_seq (s_asg0 (r_tup (r_cons (r_attr (r_loc rfl) (g_inst hw rfl)) (r_cons (r_tup (r_cons (r_attr (r_loc rfl) (g_inst hw rfl)) (r_cons (r_bin (r_attr (r_loc rfl) (g_inst hw rfl)) r_lit rfl) r_nil))) r_nil))) (t_attr0 (r_loc rfl) (g_setA hw))) (s_seq (s_asg0 (r_tup (r_cons (r_call r_glob (r_cons (r_call r_glob (r_cons (r_loc rfl) r_nil) (patof_ok hv)) r_nil) ec) (r_cons r_lit r_nil))) (t_tup0 rfl (t_cons0 (t_attr0 (r_loc rfl) (g_setA hw3)) (t_cons0 (t_attr0 (r_loc rfl) (g_setA (set_at hw3))) t_nil0)))) (s_stop (s_ret0 r_lit))))))) (by rw [List.set_set])
theorem oth_ask {tr:V} (hm:H[mo]? = some (matO s h q)) (e:callF (pgc own) (d+5) 56 [.loc mo,tr,.loc wl] H=some (.bool true,H2)):callF (pgc own) (d+6) 54 [.loc mo,.tup [.str [97,115,107],tr],.loc wl] H=some (.bool true,H2) :=
  call_ret rfl rfl (s_seq (s_asg0 (r_idx (r_loc rfl) r_lit (by rfl)) t_loc0) (s_seq (s_if_f (r_cmp (r_loc rfl) r_glob (by rfl)) s_nil0) (s_seq (s_if_f (r_cmp (r_loc rfl) r_glob (by rfl)) s_nil0) (s_stop (s_if_t (r_cmp (r_loc rfl) r_glob (by rfl)) (s_stop (s_ret0 (r_meth (r_loc rfl) hm rfl rfl (r_cons (r_idx (r_loc rfl) r_lit rfl) (r_cons (r_loc rfl) r_nil)) e))))))))
theorem rngL_nat:∀(n a:Nat),rngL (a:Int) 1 n=(List.range' a n).map fun(x:Nat)=>(x:Int)
  | 0,a=>rfl
  | n+1,a=>by
    rw [rngL_2]
    show(a:Int)::rngL ((a:Int)+1) 1 n=(a:Int)::(List.range' (a+1) n).map _
    rw [show((a:Int)+1)=((a+1:Nat):Int) from rfl,rngL_nat n (a+1)]
noncomputable def arbL (s:List Nat) (a:Nat):List V:=(List.range' a (s.length+1 - a)).map fun(x:Nat)=>V.int x
theorem arb_ends_ok (hs:s.length<1000) (ha:a≤s.length):callF (pgc own) (d+1) 40 [.str s,.int a] H=some (.loc H.length,H++[.list (arbL s a)]):=by
  have h1:rngLen (a:Int) ((s.length+1:Nat):Int) 1=s.length+1 - a:=rng_up (by omega)
  have h2:listV (.rng a (s.length+1:Nat) 1) H=some (arbL s a):=by
    show gd (rngLen (a:Int) ((s.length+1:Nat):Int) 1≤1024∧_) _=_
    rw [h1,gd_at ⟨by omega,by omega,by omega,.inl rfl⟩,rngL_nat,List.map_map]; rfl
  exact call_ret rfl rfl (s_stop (s_ret0 (r_prim (r_cons (r_prim (r_cons (r_loc rfl) (r_cons (r_bin (r_prim (r_cons (r_loc rfl) r_nil) rfl) r_lit rfl) r_nil)) (p_range2 (b:=((s.length+1:Nat):Int)) ⟨by omega,by omega⟩)) r_nil) ((congrArg (fun z=>z.map fun l=>(V.loc H.length,H++[O.list l])) h2)))))
theorem ends_arb {v:V} {H2:Hp} (e:callF (pgc own) (d+1) 40 [.str s,.int a] H=some (v,H2)):callF (pgc own) (d+2) 45 [.str [97,114,98],.str s,.int a,.none] H=some (v,H2) :=
  call_ret rfl rfl (s_stop (s_if_t (r_cmp (r_loc rfl) r_lit rfl) (s_stop (s_ret0 (r_call r_glob (r_cons (r_loc rfl) (r_cons (r_loc rfl) r_nil)) e)))))
noncomputable def bW:List MS:=[(.asg (.loc 4) (.meth (.loc 1) 107 [(.attr (.loc 1) 1)])),(.asg (.attr (.loc 4) 2) (.loc 3)),(.expr (.bmeth (.attr (.loc 0) 8) .append [(.loc 4)]))]
theorem met_body {L:List V} {e:Nat} {y:Option V} {en:V} (hm:H[mo]? = some (matO s h q)) (hw:H[wl]? = some (wayO o pc a nm mk ca)) (hq:H[q]? = some (.list L)) (hl:L.length<lim):exB (pgc own) (callF (pgc own) (d+3)) bW [some (.loc mo),some (.loc wl),some en,some (.int e),y] H=some (.next,[some (.loc mo),some (.loc wl),some en,some (.int e),some (.loc H.length)],(H++[wayO o pc e nm mk ca]).set q (.list (L++[.loc H.length]))) :=
  s_seq (s_asg0 (r_meth (r_loc rfl) hw rfl rfl (r_cons (r_attr (r_loc rfl) (g_inst hw rfl)) r_nil) (copied_ok hw)) t_loc0) (s_seq (s_asg0 (r_loc rfl) (t_attr0 (r_loc rfl) g_setN)) (s_seq (s_expr0 (r_bm (r_attr (r_loc rfl) (g_inst (app_in hm) rfl)) (g_kindL (app_in hq) rfl) (r_cons (r_loc rfl) r_nil) (g_append (app_in hq) hl))) s_nil0))
theorem oth_ways {v:V} {b:Bool} {H3:Hp} (hm:H[mo]? = some (matO s h q)) (hw:H[wl]? = some (wayO o pc a nm mk ca)) (e:callF (pgc own) (d+4) 45 [.str [97,114,98],.str s,.int a,.none] H=some (v,H2)) (hm2:H2[mo]? = some (matO s h q)) (e2:callF (pgc own) (d+4) 55 [.loc mo,.loc wl,v] H2=some (.bool b,H3)):callF (pgc own) (d+5) 54 [.loc mo,.tup [.str [119,97,121,115],.str [97,114,98]],.loc wl] H=some (.bool b,H3) :=
  call_ret rfl rfl (s_seq (s_asg0 (r_idx (r_loc rfl) r_lit rfl) t_loc0) (s_seq (s_if_f (r_cmp (r_loc rfl) r_glob rfl) s_nil0) (s_stop (s_if_t (r_cmp (r_loc rfl) r_glob rfl) (s_stop (s_ret0 (r_meth (r_loc rfl) hm rfl rfl (r_cons (r_loc rfl) (r_cons (r_call r_glob (r_cons (r_idx (r_loc rfl) r_lit rfl) (r_cons (r_attr (r_loc rfl) (g_inst hm rfl)) (r_cons (r_attr (r_loc rfl) (g_inst hw rfl)) (r_cons r_lit r_nil)))) e) r_nil)) e2)))))))
end
inductive Od where
  | one (x:Sg) | arbw | split (g:Nat) | jump (g:Nat) | mark | set (r:Nat) | gain | ask (k:List Nat) | done
noncomputable def oV:Od→V
  | .one x=>.tup [.str [111,110,101],.str (sgK x),sgO x]
  | .arbw=>.tup [.str [119,97,121,115],.str [97,114,98]]
  | .split g=>.tup [.str [115,112,108,105,116],.int g]
  | .jump g=>.tup [.str [106,117,109,112],.int g]
  | .mark=>.tup [.str [109,97,114,107]]
  | .set r=>.tup [.str [115,101,116],.loc r]
  | .gain=>.tup [.str [103,97,105,110]]
  | .ask k=>.tup [.str [97,115,107],.tup [.str [110,97,109,101],.str k]]
  | .done=>.tup [.str [100,111,110,101]]
structure CW where
  O:List Od
  pc:Nat
  a:Nat
  nm:Nm
  mks:List Nat
  cs:List (List Od×Nat)
noncomputable def nmR:Nm→V
  | []=>.none
  | x::r=>.tup [nmR r,.tup [.loc x.1,.str x.2]]
noncomputable def mkV:List Nat→V
  | []=>.none
  | b::r=>.tup [mkV r,.int b]
inductive CAdv where
  | go (w:CW) (σ:Hs) (ps:List (Option CW)) | no
inductive RRes where
  | met (w:CW) | non | lost
section
variable (kp:Nat→Option (List Nat)) (s:List Nat)
inductive OdR:Od→CW→Hs→CAdv→Prop where
  | onet {x w σ e}:sgE s w.a x=some e→OdR (.one x) w σ (.go { w with pc:=w.pc+1,a:=e } σ [])
  | onef {x w σ}:sgE s w.a x=none→OdR (.one x) w σ .no
  | arbw {w σ}:w.a≤s.length→OdR .arbw w σ (.go { w with pc:=w.pc+1 } σ ((List.range' (w.a+1) (s.length - w.a)).reverse.map fun e=>some { w with pc:=w.pc+1,a:=e }))
  | split {g w σ}:OdR (.split g) w σ (.go { w with pc:=w.pc+1 } σ [some { w with pc:=g }])
  | jump {g w σ}:OdR (.jump g) w σ (.go { w with pc:=g } σ [])
  | mark {w σ}:OdR .mark w σ (.go { w with pc:=w.pc+1,mks:=w.a::w.mks } σ [])
  | set {r key O pc a nm b mk cs σ}:kp r=some key→OdR (.set r) ⟨O,pc,a,nm,b::mk,cs⟩ σ (.go ⟨O,pc+1,a,nm,mk,cs⟩ (asgn σ key (.str ((s.take a).drop b))) [])
  | gaint {O pc a nm b mk cs σ}:b<a→OdR .gain ⟨O,pc,a,nm,b::mk,cs⟩ σ (.go ⟨O,pc+1,a,nm,mk,cs⟩ σ [])
  | gainf {O pc a nm b mk cs σ}:¬ b<a→OdR .gain ⟨O,pc,a,nm,b::mk,cs⟩ σ .no
  | ask {k t w σ}:TxV ((lookS k σ.vals).getD (.str [])) t→OdR (.ask k) w σ (.go { w with O:=[.one (.ch t),.done],pc:=0,cs:=(w.O,w.pc+1)::w.cs } σ [])
  | done {O pc a nm mk O2 pc2 cs σ}:OdR .done ⟨O,pc,a,nm,mk,(O2,pc2)::cs⟩ σ (.go ⟨O2,pc2,a,nm,mk,cs⟩ σ [])
inductive Rn:CW→List (Option CW)→Hs→Nat→RRes→Hs→Nat→Prop where
  | met {w L σ k}:w.O[w.pc]? = some .done→w.cs=[]→Rn w L σ k (.met w) σ (k+1)
  | go {w L σ k R τ k' od w' σ' ps}:w.O[w.pc]? = some od→OdR kp s od w σ (.go w' σ' ps)→Rn w' (L++ps) σ' (k+1) R τ k'→Rn w L σ k R τ k'
  | pop {w L σ k R τ k' od w2}:w.O[w.pc]? = some od→OdR kp s od w σ .no→Rn w2 L σ (k+1) R τ k'→Rn w (L++[some w2]) σ k R τ k'
  | non {w σ k od}:w.O[w.pc]? = some od→OdR kp s od w σ .no→Rn w [] σ k .non σ (k+1)
  | lost {w L σ k od}:w.O[w.pc]? = some od→OdR kp s od w σ .no→Rn w (L++[none]) σ k .lost σ (k+1)
end
theorem Rn.mono {kp:Nat→Option (List Nat)} {s:List Nat} {w:CW} {L:List (Option CW)} {σ τ:Hs} {k k':Nat} {R:RRes} (T:Rn kp s w L σ k R τ k'):k+1≤k':=by
  induction T with
  | go _ _ _ ih=>exact Nat.le_of_succ_le ih
  | pop _ _ _ ih=>exact Nat.le_of_succ_le ih
  | _=>exact Nat.le_refl _
noncomputable def LK (q lg:Nat) (H H':Hp):Prop:=∀ i l,H[i]? = some (.list l)→i≠q→i≠lg→H'[i]? = some (.list l)
theorem LK.trans {q lg:Nat} {H H1 H2:Hp} (a:LK q lg H H1) (b:LK q lg H1 H2):LK q lg H H2:=fun i l e h1 h2=>b i l (a i l e h1 h2) h1 h2
theorem LK.set {q lg n:Nat} {H:Hp} {x y:O} (h:H[n]? = some x) (hx:n=q∨n=lg∨∀ l,x≠.list l):LK q lg H (H.set n y):=fun i l e h1 h2 =>
  set_off (fun e'=>by
    subst e'
    rcases hx with hx | hx | hx
    · exact h1 hx
    · exact h2 hx
    · exact hx l (Option.some.inj (h.symm.trans e))) e
theorem LK.app {q lg:Nat} {H:Hp} (l:Hp):LK q lg H (H++l):=fun i l e _ _=>app_in e
inductive CsAt (H:Hp) (q lg:Nat):List (List Od×Nat)→V→Prop where
  | nil:CsAt H q lg [] .none
  | cons {o O pc r v}:H[o]? = some (.list (List.map oV O))→o≠q→o≠lg→CsAt H q lg r v→CsAt H q lg ((O,pc)::r) (.tup [v,.tup [.loc o,.int pc]])
theorem CsAt.keep {H H':Hp} {q lg:Nat} (l:LK q lg H H') {cs:List (List Od×Nat)} {v:V} (c:CsAt H q lg cs v):CsAt H' q lg cs v:=by
  induction c with
  | nil=>exact .nil
  | cons h n1 n2 _ ih=>exact .cons (l _ _ h n1 n2) n1 n2 ih
inductive WAt (H:Hp) (q lg wl:Nat) (w:CW):Prop where
  | mk (o:Nat) (ca:V) (hw:H[wl]? = some (wayO o w.pc w.a (nmR w.nm) (mkV w.mks) ca)) (ho:H[o]? = some (.list (w.O.map oV))) (n1:o≠q) (n2:o≠lg) (hc:CsAt H q lg w.cs ca):WAt H q lg wl w
theorem WAt.keep {H H':Hp} {q lg wl:Nat} {w:CW} (l:LK q lg H H') (e:∀ x,H[wl]? = some x→H'[wl]? = some x) (c:WAt H q lg wl w):WAt H' q lg wl w:=by
  obtain⟨o,ca,hw,ho,n1,n2,hc⟩:=c
  exact⟨o,ca,e _ hw,l _ _ ho n1 n2,n1,n2,hc.keep l⟩
noncomputable def HAt (H:Hp) (q lg i:Nat) (x:Option CW):Prop:=match x with
  | some w=>WAt H q lg i w
  | none=>H[i]? = some wayN
theorem HAt.inst {H:Hp} {q lg i:Nat} {x:Option CW} (c:HAt H q lg i x):∃ fs,H[i]? = some (.inst 2 fs):=by
  cases x with
  | none=>exact⟨_,c⟩
  | some w=>obtain⟨o,ca,hw,_⟩:=c; exact⟨_,hw⟩
theorem HAt.keep {H H':Hp} {q lg i:Nat} {x:Option CW} (l:LK q lg H H') (e:∀ x,H[i]? = some x→H'[i]? = some x) (c:HAt H q lg i x):HAt H' q lg i x:=by
  cases x with
  | none=>exact e _ c
  | some w=>exact WAt.keep l e c
structure CS (kp:Nat→Option (List Nat)) (H0:Hp) (mo q h va rf lg:Nat) (m:Int) (s:List Nat) (wl:Nat) (hs:List (Nat×Option CW)) (k:Nat) (σ:Hs) (H:Hp):Prop where
  len:H0.length≤H.length
  mat:H[mo]? = some (matO s h q)
  hist:H[q]? = some (.list (hs.map fun x=>.loc x.1))
  host:H[h]? = some (hostO (.loc va) (.loc rf) (.loc lg) m k)
  vals:H[va]? = some (.dict σ.vals)
  log:H[lg]? = some (.list σ.log)
  ref:H[rf]? = some (.list [])
  rk:∀ r key,kp r=some key→H[r]? = some (nrO key)
  ws:∀ x∈hs,HAt H q lg x.1 x.2
  way:∃ fs,H[wl]? = some (.inst 2 fs)
  nd:∀ x∈hs,x.1≠wl
  nd2:hs.Pairwise fun x y=>x.1≠y.1
  off:∀ i,i<H0.length→i≠h→i≠va→i≠lg→H[i]? = H0[i]?
  wlo:H0.length≤wl
  wslo:∀ x∈hs,H0.length≤x.1
  qlo:H0.length≤q
  n3:rf≠lg
  n4:q≠lg
  n5:q≠rf
section
variable {kp:Nat→Option (List Nat)} {own:List FI} {d:Nat} {H H0:Hp} {mo q h va rf lg wl:Nat} {m:Int} {s:List Nat} {hs:List (Nat×Option CW)} {k:Nat} {σ:Hs} {w:CW}
theorem CS.m1 (t:CS kp H0 mo q h va rf lg m s wl hs k σ H):mo≠h:=ob_ne t.mat t.host (fun e=>by cases e)
theorem CS.m2 (t:CS kp H0 mo q h va rf lg m s wl hs k σ H):mo≠q:=ob_ne t.mat t.hist (fun e=>by cases e)
theorem CS.m3 (t:CS kp H0 mo q h va rf lg m s wl hs k σ H):mo≠va:=ob_ne t.mat t.vals (fun e=>by cases e)
theorem CS.m4 (t:CS kp H0 mo q h va rf lg m s wl hs k σ H):mo≠lg:=ob_ne t.mat t.log (fun e=>by cases e)
theorem CS.m5 (t:CS kp H0 mo q h va rf lg m s wl hs k σ H):q≠h:=ob_ne t.hist t.host (fun e=>by cases e)
theorem CS.m6 (t:CS kp H0 mo q h va rf lg m s wl hs k σ H):q≠va:=ob_ne t.hist t.vals (fun e=>by cases e)
theorem CS.m7 (t:CS kp H0 mo q h va rf lg m s wl hs k σ H):h≠va:=ob_ne t.host t.vals (fun e=>by cases e)
theorem CS.m8 (t:CS kp H0 mo q h va rf lg m s wl hs k σ H):h≠lg:=ob_ne t.host t.log (fun e=>by cases e)
theorem CS.m9 (t:CS kp H0 mo q h va rf lg m s wl hs k σ H):va≠lg:=ob_ne t.vals t.log (fun e=>by cases e)
theorem CS.ma (t:CS kp H0 mo q h va rf lg m s wl hs k σ H):rf≠h:=ob_ne t.ref t.host (fun e=>by cases e)
theorem CS.mb (t:CS kp H0 mo q h va rf lg m s wl hs k σ H):rf≠va:=ob_ne t.ref t.vals (fun e=>by cases e)
theorem CS.w1 (t:CS kp H0 mo q h va rf lg m s wl hs k σ H):wl≠mo:=by obtain⟨fs,e⟩:=t.way; exact ob_ne e t.mat (fun e=>by cases e)
theorem CS.w2 (t:CS kp H0 mo q h va rf lg m s wl hs k σ H):wl≠q:=by obtain⟨fs,e⟩:=t.way; exact ob_ne e t.hist (fun e=>by cases e)
theorem CS.w3 (t:CS kp H0 mo q h va rf lg m s wl hs k σ H):wl≠h:=by obtain⟨fs,e⟩:=t.way; exact ob_ne e t.host (fun e=>by cases e)
theorem CS.w4 (t:CS kp H0 mo q h va rf lg m s wl hs k σ H):wl≠va:=by obtain⟨fs,e⟩:=t.way; exact ob_ne e t.vals (fun e=>by cases e)
theorem CS.w5 (t:CS kp H0 mo q h va rf lg m s wl hs k σ H):wl≠lg:=by obtain⟨fs,e⟩:=t.way; exact ob_ne e t.log (fun e=>by cases e)
theorem CS.w6 (t:CS kp H0 mo q h va rf lg m s wl hs k σ H):wl≠rf:=by obtain⟨fs,e⟩:=t.way; exact ob_ne e t.ref (fun e=>by cases e)
theorem CS.tick (t:CS kp H0 mo q h va rf lg m s wl hs k σ H):CS kp H0 mo q h va rf lg m s wl hs (k+1) σ (H.set h (hostO (.loc va) (.loc rf) (.loc lg) m (k+1))) :=
  have l:LK q lg H (H.set h (hostO (.loc va) (.loc rf) (.loc lg) m (k+1))):=.set t.host (.inr (.inr fun l e=>by cases e))
  { t with
    len:=by rw [List.length_set]; exact t.len
    mat:=set_off t.m1.symm t.mat,hist:=set_off t.m5.symm t.hist,host:=set_at t.host,vals:=set_off t.m7 t.vals,log:=set_off t.m8 t.log,ref:=set_off t.ma.symm t.ref
    rk:=fun r key e=>set_off (ob_ne t.host (t.rk r key e) (fun e=>by cases e)) (t.rk r key e)
    ws:=fun x hx=>(t.ws x hx).keep l fun y e=>by obtain⟨fs,e2⟩:=(t.ws x hx).inst; exact set_off (ob_ne t.host e2 (fun e=>by cases e)) e
    way:=by obtain⟨fs,e⟩:=t.way; exact⟨fs,set_off t.w3.symm e⟩
    off:=fun i h1 h2 h3 h4=>set_off h2.symm (t.off i h1 h2 h3 h4) }
theorem CS.upd (t:CS kp H0 mo q h va rf lg m s wl hs k σ H) (fs:List (Nat×V)):CS kp H0 mo q h va rf lg m s wl hs k σ (H.set wl (.inst 2 fs)):=by
  obtain⟨gs,hw⟩:=t.way
  have l:LK q lg H (H.set wl (.inst 2 fs)):=.set hw (.inr (.inr fun l e=>by cases e))
  exact { t with
    len:=by rw [List.length_set]; exact t.len
    mat:=set_off t.w1 t.mat,hist:=set_off t.w2 t.hist,host:=set_off t.w3 t.host,vals:=set_off t.w4 t.vals,log:=set_off t.w5 t.log,ref:=set_off t.w6 t.ref
    rk:=fun r key e=>set_off (ob_ne hw (t.rk r key e) (fun e=>by cases e)) (t.rk r key e)
    ws:=fun x hx=>(t.ws x hx).keep l fun y e=>set_off (t.nd x hx).symm e
    way:=⟨fs,set_at hw⟩
    off:=fun i h1 h2 h3 h4=>set_off (Nat.ne_of_gt (Nat.lt_of_lt_of_le h1 t.wlo)) (t.off i h1 h2 h3 h4) }
theorem CS.asg (t:CS kp H0 mo q h va rf lg m s wl hs k σ H) (key:List Nat) (v:V):CS kp H0 mo q h va rf lg m s wl hs k (asgn σ key v) ((H.set va (.dict (putS key v σ.vals))).set lg (.list (σ.log++[.tup [.str key,v]])))∧LK q lg H ((H.set va (.dict (putS key v σ.vals))).set lg (.list (σ.log++[.tup [.str key,v]]))):=by
  have l1:LK q lg H (H.set va (.dict (putS key v σ.vals))):=.set t.vals (.inr (.inr fun l e=>by cases e))
  have l2:LK q lg (H.set va (.dict (putS key v σ.vals))) ((H.set va (.dict (putS key v σ.vals))).set lg (.list (σ.log++[.tup [.str key,v]]))):=.set (set_off t.m9 t.log) (.inr (.inl rfl))
  refine⟨{ t with
    len:=by rw [List.length_set,List.length_set]; exact t.len
    mat:=set_off t.m4.symm (set_off t.m3.symm t.mat),hist:=set_off t.n4.symm (set_off t.m6.symm t.hist),host:=set_off t.m8.symm (set_off t.m7.symm t.host),vals:=set_off t.m9.symm (set_at t.vals),log:=set_at (set_off t.m9 t.log),ref:=set_off t.n3.symm (set_off t.mb.symm t.ref)
    rk:=fun r key e=>set_off (ob_ne t.log (t.rk r key e) (fun e=>by cases e)) (set_off (ob_ne t.vals (t.rk r key e) (fun e=>by cases e)) (t.rk r key e))
    ws:=fun x hx=>(t.ws x hx).keep (l1.trans l2) fun y e=>by obtain⟨fs,e2⟩:=(t.ws x hx).inst; exact set_off (ob_ne t.log e2 (fun e=>by cases e)) (set_off (ob_ne t.vals e2 (fun e=>by cases e)) e)
    way:=by obtain⟨fs,e⟩:=t.way; exact⟨fs,set_off t.w5.symm (set_off t.w4.symm e)⟩
    off:=fun i h1 h2 h3 h4=>set_off h4.symm (set_off h3.symm (t.off i h1 h2 h3 h4)) },l1.trans l2⟩
theorem CS.push (t:CS kp H0 mo q h va rf lg m s wl hs k σ H) (fs:List (Nat×V)) (z:Option CW) (hz:HAt ((H++[O.inst 2 fs]).set q (.list (hs.map (fun x=>V.loc x.1)++[.loc H.length]))) q lg H.length z):CS kp H0 mo q h va rf lg m s wl (hs++[(H.length,z)]) k σ ((H++[O.inst 2 fs]).set q (.list (hs.map (fun x=>V.loc x.1)++[.loc H.length]))):=by
  have l:LK q lg H ((H++[O.inst 2 fs]).set q (.list (hs.map (fun x=>V.loc x.1)++[.loc H.length]))):=LK.trans (.app _) (.set (app_in t.hist) (.inl rfl))
  obtain⟨gs,hw⟩:=t.way
  exact { t with
    len:=by rw [List.length_set,List.length_append]; exact Nat.le_add_right_of_le t.len
    mat:=set_off t.m2.symm (app_in t.mat),hist:=by rw [map_snoc]; exact set_at (app_in t.hist),host:=set_off t.m5 (app_in t.host),vals:=set_off t.m6 (app_in t.vals),log:=set_off t.n4 (app_in t.log),ref:=set_off t.n5 (app_in t.ref)
    rk:=fun r key e=>set_off (ob_ne t.hist (t.rk r key e) (fun e=>by cases e)) (app_in (t.rk r key e))
    ws:=fun x hx=>(List.mem_append.mp hx).elim (fun hx=>(t.ws x hx).keep l fun y e=>by obtain⟨fs,e2⟩:=(t.ws x hx).inst; exact set_off (ob_ne t.hist e2 (fun e=>by cases e)) (app_in e)) (fun hx=>by rw [List.mem_singleton.mp hx]; exact hz)
    way:=⟨gs,set_off t.w2.symm (app_in hw)⟩
    nd:=fun x hx=>(List.mem_append.mp hx).elim (t.nd x) (fun hx=>by rw [List.mem_singleton.mp hx]; exact len_ne hw)
    nd2:=List.pairwise_append.mpr ⟨t.nd2,List.pairwise_singleton ..,fun x hx y hy=>by rw [List.mem_singleton.mp hy]; obtain⟨fs,e2⟩:=(t.ws x hx).inst; exact ne_len e2⟩
    off:=fun i h1 h2 h3 h4=>set_off (Nat.ne_of_gt (Nat.lt_of_lt_of_le h1 t.qlo)) ((List.getElem?_append_left (Nat.lt_of_lt_of_le h1 t.len)).trans (t.off i h1 h2 h3 h4))
    wslo:=fun x hx=>(List.mem_append.mp hx).elim (t.wslo x) (fun hx=>by rw [List.mem_singleton.mp hx]; exact t.len) }
theorem CS.pop {z:Nat×Option CW} (t:CS kp H0 mo q h va rf lg m s wl (hs++[z]) k σ H):CS kp H0 mo q h va rf lg m s z.1 hs k σ (H.set q (.list (hs.map fun x=>V.loc x.1)))∧HAt (H.set q (.list (hs.map fun x=>V.loc x.1))) q lg z.1 z.2:=by
  have hz:z∈hs++[z]:=List.mem_append_right _ (.head _)
  have l:LK q lg H (H.set q (.list (hs.map fun x=>V.loc x.1))):=.set t.hist (.inl rfl)
  have kw:∀ x∈hs++[z],HAt (H.set q (.list (hs.map fun x=>V.loc x.1))) q lg x.1 x.2:=fun x hx=>(t.ws x hx).keep l fun y e=>by obtain⟨fs,e2⟩:=(t.ws x hx).inst; exact set_off (ob_ne t.hist e2 (fun e=>by cases e)) e
  exact⟨{ t with
    len:=by rw [List.length_set]; exact t.len
    mat:=set_off t.m2.symm t.mat,hist:=set_at t.hist,host:=set_off t.m5 t.host,vals:=set_off t.m6 t.vals,log:=set_off t.n4 t.log,ref:=set_off t.n5 t.ref
    rk:=fun r key e=>set_off (ob_ne t.hist (t.rk r key e) (fun e=>by cases e)) (t.rk r key e)
    ws:=fun x hx=>kw x (List.mem_append_left _ hx)
    way:=(kw z hz).inst
    nd:=fun x hx=>(List.pairwise_append.mp t.nd2).2.2 x hx z (.head _)
    nd2:=(List.pairwise_append.mp t.nd2).1
    off:=fun i h1 h2 h3 h4=>set_off (Nat.ne_of_gt (Nat.lt_of_lt_of_le h1 t.qlo)) (t.off i h1 h2 h3 h4)
    wlo:=t.wslo z hz
    wslo:=fun x hx=>t.wslo x (List.mem_append_left _ hx) },kw z hz⟩
theorem CS.ext (t:CS kp H0 mo q h va rf lg m s wl hs k σ H) {H':Hp} (hl:H.length≤H'.length) (hk:∀ i,i<H.length→H'[i]? = H[i]?):CS kp H0 mo q h va rf lg m s wl hs k σ H':=by
  have g:∀ {i:Nat} {x:O},H[i]? = some x→H'[i]? = some x:=fun {i x} e=>(hk i (lt_get e)).trans e
  exact { t with
    len:=Nat.le_trans t.len hl
    mat:=g t.mat,hist:=g t.hist,host:=g t.host,vals:=g t.vals,log:=g t.log,ref:=g t.ref
    rk:=fun r key e=>g (t.rk r key e)
    ws:=fun x hx=>(t.ws x hx).keep (fun i l e _ _=>g e) fun y e=>g e
    way:=by obtain⟨fs,e⟩:=t.way; exact⟨fs,g e⟩
    off:=fun i h1 h2 h3 h4=>(hk i (Nat.lt_of_lt_of_le h1 t.len)).trans (t.off i h1 h2 h3 h4) }
end
inductive CompE (own:List FI) (d:Nat) (t:List Nat) (H:Hp):Prop where
  | mk (o2:Nat) (H3:Hp) (e:callF (pgc own) (d+4) 11 [.tup [.str [99,104,97,114,115],.str t]] H=some (.loc o2,H3)) (lo:H.length≤o2) (ho:H3[o2]? = some (.list (List.map oV [.one (.ch t),.done]))) (hl:H.length≤H3.length) (hk:∀ i,i<H.length→H3[i]? = H[i]?):CompE own d t H
structure Lc (hs:List (Nat×Option CW)) (σ:Hs) (s:List Nat):Prop where
  l:hs.length+s.length+1<lim
  v:σ.vals.length<1024
  g:σ.log.length<lim
  hs:s.length<1000
inductive DnE (own:List FI) (d:Nat) (kp:Nat→Option (List Nat)) (H0:Hp) (mo q h va rf lg:Nat) (m:Int) (s:List Nat) (wl:Nat) (hs:List (Nat×Option CW)) (k:Nat) (σ:Hs) (od:Od) (H:Hp):CAdv→Prop where
  | go (w':CW) (σ':Hs) (ps:List (Option CW)) (hs':List (Nat×Option CW)) (H':Hp) (e:callF (pgc own) (d+7) 51 [.loc mo,oV od,.loc wl] H=some (.bool true,H')) (t:CS kp H0 mo q h va rf lg m s wl (hs++hs') k σ' H') (w:WAt H' q lg wl w') (hp:hs'.map (·.2)=ps):DnE own d kp H0 mo q h va rf lg m s wl hs k σ od H (.go w' σ' ps)
  | no (H':Hp) (e:callF (pgc own) (d+7) 51 [.loc mo,oV od,.loc wl] H=some (.bool false,H')) (t:CS kp H0 mo q h va rf lg m s wl hs k σ H'):DnE own d kp H0 mo q h va rf lg m s wl hs k σ od H .no
section
variable {kp:Nat→Option (List Nat)} {own:List FI} {d:Nat} {H H0:Hp} {mo q h va rf lg wl:Nat} {m:Int} {s:List Nat} {hs:List (Nat×Option CW)} {k:Nat} {σ:Hs} {w:CW}
theorem CS.wset (t:CS kp H0 mo q h va rf lg m s wl hs k σ H) {w':CW} {o:Nat} {ca:V} (ho:H[o]? = some (.list (w'.O.map oV))) (n1:o≠q) (n2:o≠lg) (hc:CsAt H q lg w'.cs ca):WAt (H.set wl (wayO o w'.pc w'.a (nmR w'.nm) (mkV w'.mks) ca)) q lg wl w':=by
  obtain⟨gs,hw⟩:=t.way
  have l:LK q lg H (H.set wl (wayO o w'.pc w'.a (nmR w'.nm) (mkV w'.mks) ca)):=.set hw (.inr (.inr fun l e=>by cases e))
  exact⟨o,ca,set_at hw,l _ _ ho n1 n2,n1,n2,hc.keep l⟩
theorem DnE.same {od:Od} {w':CW} {H':Hp} (e:callF (pgc own) (d+7) 51 [.loc mo,oV od,.loc wl] H=some (.bool true,H')) (t:CS kp H0 mo q h va rf lg m s wl hs k σ H') (w:WAt H' q lg wl w'):DnE own d kp H0 mo q h va rf lg m s wl hs k σ od H (.go w' σ []) :=
  .go w' σ [] [] H' e (by rw [List.append_nil]; exact t) w rfl
theorem CS.pushLK (t:CS kp H0 mo q h va rf lg m s wl hs k σ H) (x:O) (L:List V):LK q lg H ((H++[x]).set q (.list L)):=LK.trans (.app _) (.set (app_in t.hist) (.inl rfl))
theorem CS.asg_ok (t:CS kp H0 mo q h va rf lg m s wl hs k σ H) (hes:σ.vals.length<1024) (hll:σ.log.length<lim) {r:Nat} {key:List Nat} (hk:kp r=some key) (v:V) (d:Nat):callF (pgc own) (d+1) 62 [.loc h,.loc r,v] H=some (.bool true,(H.set va (.dict (putS key v σ.vals))).set lg (.list (σ.log++[.tup [.str key,v]]))) :=
  assign_ok t.host (t.rk r key hk) t.ref t.vals hes t.log hll t.m7.symm (ob_ne t.vals (t.rk r key hk) (fun e=>by cases e)) t.m9
noncomputable def bWl:List V→List Nat→Prop:=fun l E=>l=E.map fun(e:Nat)=>V.int e
theorem met_loop {en:V} {sl:Nat}:∀(E:List Nat) (i f:Nat) (H:Hp) (hs:List (Nat×Option CW)) (LL:List V) (x y:Option V),E.length<f→CS kp H0 mo q h va rf lg m s wl hs k σ H→WAt H q lg wl w→H[sl]? = some (.list LL)→sl≠q→sl≠lg→LL.drop i=E.map (fun(e:Nat)=>V.int e)→hs.length+E.length<lim →
    ∃ l' H' hs',forN (.one 3) (fun l H=>exB (pgc own) (callF (pgc own) (d+3)) bW l H) f (.lst sl i) [some (.loc mo),some (.loc wl),some en,x,y] H=some (.next,[some (.loc mo),some (.loc wl),some en]++l',H')∧CS kp H0 mo q h va rf lg m s wl (hs++hs') k σ H'∧WAt H' q lg wl w∧hs'.map (·.2)=E.map (fun e=>some { w with a:=e })∧LK q lg H H'
  | [],i,f+1,H,hs,LL,x,y,_,t,hw,hsl,n1,n2,hd,_=>by
    have:LL[i]? = none:=List.getElem?_eq_none_iff.mpr (List.drop_eq_nil_iff.mp hd)
    exact⟨[x,y],H,[],fn_end (n_lst0 hsl this),by rw [List.append_nil]; exact t,hw,rfl,fun i l e _ _=>e⟩
  | e::E,i,f+1,H,hs,LL,x,y,hf,t,hw,hsl,n1,n2,hd,hlim=>by
    have hx:LL[i]? = some (.int e):=by rw [← List.head?_drop,hd]; rfl
    have hd2:LL.drop (i+1)=E.map (fun(e:Nat)=>V.int e):=by rw [← List.drop_drop,hd]; rfl
    obtain⟨o,ca,hw1,ho,m1,m2,hc⟩:=hw
    have l:=t.pushLK (wayO o w.pc e (nmR w.nm) (mkV w.mks) ca) (hs.map (fun x=>V.loc x.1)++[.loc H.length])
    have hz:HAt ((H++[wayO o w.pc e (nmR w.nm) (mkV w.mks) ca]).set q (.list (hs.map (fun x=>V.loc x.1)++[.loc H.length]))) q lg H.length (some { w with a:=e }) :=
      ⟨o,ca,set_off (ne_len t.hist) app_new,l _ _ ho m1 m2,m1,m2,hc.keep l⟩
    have t1:=t.push _ _ hz
    have hw2:WAt ((H++[wayO o w.pc e (nmR w.nm) (mkV w.mks) ca]).set q (.list (hs.map (fun x=>V.loc x.1)++[.loc H.length]))) q lg wl w :=
      ⟨o,ca,set_off t.w2.symm (app_in hw1),l _ _ ho m1 m2,m1,m2,hc.keep l⟩
    obtain⟨l',H',hs',e1,t2,w2,h2,l2⟩:=met_loop E (i+1) f _ _ LL (some (.int e)) (some (.loc H.length)) (Nat.lt_of_succ_lt_succ hf) t1 hw2 (l _ _ hsl n1 n2) n1 n2 hd2 (by rw [List.length_append]; show hs.length+1+E.length<lim; rw [List.length_cons] at hlim; exact Nat.not_le.mp (lin [_,_,_] (.c 1 (.a (.a (.v 0) (.a (.v 1) (.n 1))) (.n 1)) (.v 2) (.c 1 (.v 2) (.a (.a (.v 0) (.n 1)) (.v 1)) .z)) rfl hlim))
    refine⟨l',H',(H.length,some { w with a:=e })::hs',fn_next (n_lst hsl hx) rfl (met_body t.mat hw1 t.hist (by rw [List.length_map]; exact Nat.not_le.mp (lin [_,_,_] (.c 1 (.a (.a (.v 0) (.v 1)) (.n 1)) (.v 2) (.c 1 (.v 2) (.v 0) .z)) rfl hlim))) e1,by rw [List.append_cons]; exact t2,w2,?_,l.trans l2⟩
    show _::_=_::_
    rw [h2]
theorem slice_rev {n:Nat} {l:List V} (h:H[n]? = some (.list l)):sliceV (.loc n) .none (.int 0) (.int (-1)) H=some (.loc H.length,H++[.list (l.drop 1).reverse]):=by
  refine(atL_at h).trans ?_
  rfl
theorem often_ok {e0:Nat} {E:List Nat} {en:Nat} (t:CS kp H0 mo q h va rf lg m s wl hs k σ H) (hw:WAt H q lg wl w) (c:hs.length+E.length<lim) (hE:E.length<1000000) (hen:H[en]? = some (.list ((e0::E).map fun(e:Nat)=>V.int e))) (q1:en≠q) (q2:en≠lg) :
    ∃ hs' H',callF (pgc own) (d+4) 55 [.loc mo,.loc wl,.loc en] H=some (.bool true,H')∧CS kp H0 mo q h va rf lg m s wl (hs++hs') k σ H'∧WAt H' q lg wl { w with pc:=w.pc+1,a:=e0 }∧hs'.map (·.2)=E.reverse.map fun e=>some { w with pc:=w.pc+1,a:=e }:=by
  obtain⟨o,ca,hw1,ho,n1,n2,hc⟩:=hw
  have hn0:¬ ((((e0::E).map fun(e:Nat)=>V.int e).length:Int)=0):=by rw [List.length_map,List.length_cons]; omega
  have t2:=t.upd [(0,.loc o),(1,.int (w.pc+1:Nat)),(2,.int w.a),(3,nmR w.nm),(4,mkV w.mks),(5,ca)]
  have w2:WAt (H.set wl (wayO o (w.pc+1) w.a (nmR w.nm) (mkV w.mks) ca)) q lg wl { w with pc:=w.pc+1 }:=t.wset (w':={ w with pc:=w.pc+1 }) ho n1 n2 hc
  have l2:LK q lg H (H.set wl (wayO o (w.pc+1) w.a (nmR w.nm) (mkV w.mks) ca)):=.set hw1 (.inr (.inr fun l e=>by cases e))
  have hen2:=l2 _ _ hen q1 q2
  generalize hH1:H.set wl (wayO o (w.pc+1) w.a (nmR w.nm) (mkV w.mks) ca)=H1 at t2 w2 hen2 l2
  have hslc:=slice_rev hen2
  have hq:=lt_get t2.hist
  have hlg:=lt_get t2.log
  have t3:=t2.ext (H':=H1++[.list ((((e0::E).map fun(e:Nat)=>V.int e).drop 1).reverse)]) (by rw [List.length_append]; exact Nat.le_add_right ..) fun i hi=>List.getElem?_append_left hi
  have w3:=w2.keep (H':=H1++[.list ((((e0::E).map fun(e:Nat)=>V.int e).drop 1).reverse)]) (.app _) fun x e=>app_in e
  have hdr:(((e0::E).map fun(e:Nat)=>V.int e).drop 1).reverse=E.reverse.map (fun(e:Nat)=>V.int e):=List.map_reverse.symm
  have hsl:(H1++[O.list ((((e0::E).map fun(e:Nat)=>V.int e).drop 1).reverse)])[H1.length]? = some (.list (E.reverse.map (fun(e:Nat)=>V.int e))):=by rw [← hdr]; exact app_new
  obtain⟨l',H',hs',e1,t4,w4,h4,l4⟩:=met_loop (own:=own) (d:=d) (en:=.loc en) (sl:=H1.length) E.reverse 0 1048576 _ hs _ none none (by rw [List.length_reverse]; exact Nat.not_le.mp (lin [_] (.c 1 (.a (.v 0) (.n 1)) (.n 1000000) (.c 1 (.n 1048576) (.v 0) .z)) rfl hE)) t3 w3 hsl (Nat.ne_of_gt hq) (Nat.ne_of_gt hlg) rfl (by rw [List.length_reverse]; exact Nat.not_le.mp (lin [_,_,_] (.c 1 (.a (.a (.v 0) (.v 1)) (.n 1)) (.v 2) (.c 1 (.v 2) (.a (.v 0) (.v 1)) .z)) rfl c))
  obtain⟨o4,ca4,hw3,ho4,m1,m2,hc4⟩:=w4
  have hen3:H'[en]? = some (.list ((e0::E).map fun(e:Nat)=>V.int e)):=l4 _ _ (app_in hen2) q1 q2
  have h00:((e0::E).map fun(e:Nat)=>V.int e)[0]? = some (.int e0):=rfl
  refine⟨hs',H'.set wl (wayO o4 (w.pc+1) e0 (nmR w.nm) (mkV w.mks) ca4),?_,t4.upd _,t4.wset (w':={ w with pc:=w.pc+1,a:=e0 }) ho4 m1 m2 hc4,h4⟩
  subst hH1
  exact call_ret rfl rfl (s_seq (s_if_f (r_cmp (r_prim (r_cons (r_loc rfl) r_nil) (g_len hen)) r_lit (c_eqI (q:=false) (decide_eq_false hn0))) s_nil0) (s_seq (s_auga0 (r_loc rfl) (g_inst hw1 rfl) r_lit rfl (g_setA hw1)) (s_seq (s_for0 (r_slice (r_loc rfl) r_lit r_lit (r_neg r_lit) hslc) (i_lst hsl) e1) (s_seq (s_asg0 (r_idx (r_loc rfl) r_lit (g_idxL hen3 (idxL_at (k:=0) h00))) (t_attr0 (r_loc rfl) (g_setA hw3))) (s_stop (s_ret0 r_lit))))))
theorem ways_ok (t:CS kp H0 mo q h va rf lg m s wl hs k σ H) (hw:WAt H q lg wl w) (ha:w.a≤s.length) (c:Lc hs σ s):DnE own d kp H0 mo q h va rf lg m s wl hs k σ .arbw H (.go { w with pc:=w.pc+1 } σ ((List.range' (w.a+1) (s.length - w.a)).reverse.map fun e=>some { w with pc:=w.pc+1,a:=e })):=by
  have cl:=c.l
  have hs0:=c.hs
  have hEL:arbL s w.a=(w.a::List.range' (w.a+1) (s.length - w.a)).map (fun(e:Nat)=>V.int e):=by
    show(List.range' w.a (s.length+1 - w.a)).map _=_
    rw [show s.length+1 - w.a=(s.length - w.a)+1 by omega,List.range'_succ]
  have t1:=t.ext (H':=H++[.list (arbL s w.a)]) (by rw [List.length_append]; exact Nat.le_add_right ..) fun i hi=>List.getElem?_append_left hi
  have w1:=hw.keep (H':=H++[.list (arbL s w.a)]) (.app _) fun x e=>app_in e
  obtain⟨o,ca,hw0,ho,n1,n2,hc⟩:=hw
  have hen:(H++[O.list (arbL s w.a)])[H.length]? = some (.list ((w.a::List.range' (w.a+1) (s.length - w.a)).map (fun(e:Nat)=>V.int e))):=by rw [← hEL]; exact app_new
  obtain⟨hs',H',e1,t4,w4,h4⟩:=often_ok (own:=own) (d:=d+1) t1 w1 (by rw [List.length_range']; omega) (by rw [List.length_range']; omega) hen (Nat.ne_of_gt (lt_get t.hist)) (Nat.ne_of_gt (lt_get t.log))
  refine .go _ _ _ hs' H' ?_ t4 w4 h4
  exact done_other rfl rfl rfl rfl rfl rfl t.mat (oth_ways t.mat hw0 (ends_arb (arb_ends_ok hs0 ha)) t1.mat e1)
end
section
variable {kp:Nat→Option (List Nat)} {own:List FI} {d:Nat} {H H0:Hp} {mo q h va rf lg wl:Nat} {m:Int} {s:List Nat} {hs:List (Nat×Option CW)} {k:Nat} {σ:Hs} {w:CW}
theorem done_ok (hC:∀ t H,CompE own d t H) {od:Od} {A:CAdv} (X:OdR kp s od w σ A) (t:CS kp H0 mo q h va rf lg m s wl hs k σ H) (hw:WAt H q lg wl w) (c:Lc hs σ s):DnE own d kp H0 mo q h va rf lg m s wl hs k σ od H A:=by
  have hss:s.length<1048576:=Nat.lt_trans c.hs (by decide)
  have hql:(hs.map fun x=>V.loc x.1).length<lim:=by rw [List.length_map]; have:=c.l; exact Nat.not_le.mp (lin [_,_,_] (.c 1 (.a (.a (.a (.v 0) (.v 1)) (.n 1)) (.n 1)) (.v 2) (.c 1 (.v 2) (.v 0) .z)) rfl this)
  cases X with
  | onet e =>
    obtain⟨o,ca,hw0,ho,n1,n2,hc⟩:=hw
    exact .same (done_one t.mat (once_t hss t.mat hw0 e)) (t.upd _) (t.wset (w':={ w with pc:=w.pc+1,a:=_ }) ho n1 n2 hc)
  | onef e =>
    obtain⟨o,ca,hw0,ho,n1,n2,hc⟩:=hw
    exact .no H (done_one t.mat (once_f hss t.mat hw0 e)) t
  | arbw e=>exact ways_ok t hw e c
  | split =>
    obtain⟨o,ca,hw0,ho,n1,n2,hc⟩:=hw
    rename_i g
    have l:=t.pushLK (wayO o g w.a (nmR w.nm) (mkV w.mks) ca) (hs.map (fun x=>V.loc x.1)++[.loc H.length])
    have t1:=t.push _ (some { w with pc:=g }) ⟨o,ca,set_off (ne_len t.hist) app_new,l _ _ ho n1 n2,n1,n2,hc.keep l⟩
    exact .go _ _ _ [(H.length,some { w with pc:=g })] _ (done_split t.mat hw0 t.hist hql t.w2) (t1.upd _) (t1.wset (w':={ w with pc:=w.pc+1 }) (l _ _ ho n1 n2) n1 n2 (hc.keep l)) rfl
  | jump =>
    obtain⟨o,ca,hw0,ho,n1,n2,hc⟩:=hw
    exact .same (done_jump hw0) (t.upd _) (t.wset (w':={ w with pc:=_ }) ho n1 n2 hc)
  | mark =>
    obtain⟨o,ca,hw0,ho,n1,n2,hc⟩:=hw
    exact .same (done_mark hw0) (t.upd _) (t.wset (w':={ w with pc:=w.pc+1,mks:=w.a::w.mks }) ho n1 n2 hc)
  | @set r key O pc a nm b mk cs σ e =>
    obtain⟨o,ca,hw0,ho,n1,n2,hc⟩:=hw
    have t1:=t.upd [(0,.loc o),(1,.int pc),(2,.int a),(3,nmR nm),(4,mkV mk),(5,ca)]
    have w1:WAt (H.set wl (wayO o pc a (nmR nm) (mkV mk) ca)) q lg wl ⟨O,pc,a,nm,mk,cs⟩:=t.wset (w':=⟨O,pc,a,nm,mk,cs⟩) ho n1 n2 hc
    obtain⟨t2,l2⟩:=t1.asg key (.str ((s.take a).drop b))
    have w2:=w1.keep l2 fun x e=>set_off t1.w5.symm (set_off t1.w4.symm e)
    obtain⟨o2,ca2,hw2,ho2,m1,m2,hc2⟩:=w2
    exact .go _ _ _ [] _ (done_ended rfl rfl rfl rfl rfl t.mat (ended_set t.mat hw0 t.w1.symm (t1.asg_ok c.v c.g e _ _) ⟨_,t.host⟩ t.w3.symm) hw2) (by rw [List.append_nil]; exact t2.upd _) (t2.wset (w':=⟨O,pc+1,a,nm,mk,cs⟩) ho2 m1 m2 hc2) rfl
  | @gaint O pc a nm b mk cs σ e =>
    obtain⟨o,ca,hw0,ho,n1,n2,hc⟩:=hw
    exact .same (Eq.trans (done_ended (o2:=o) (pc2:=pc) (a2:=a) (nm2:=nmR nm) (mk2:=mkV mk) (ca2:=ca) rfl rfl rfl rfl rfl t.mat (ended_gain t.mat hw0 t.w1.symm (decide_eq_true e)) (set_at hw0)) (by rw [List.set_set])) (t.upd _) (t.wset (w':=⟨O,pc+1,a,nm,mk,cs⟩) ho n1 n2 hc)
  | gainf e =>
    obtain⟨o,ca,hw0,ho,n1,n2,hc⟩:=hw
    exact .no _ (done_gain_f t.mat (ended_gain t.mat hw0 t.w1.symm (decide_eq_false e))) (t.upd _)
  | @ask key tx w σ e =>
    obtain⟨o,ca,hw0,ho,n1,n2,hc⟩:=hw
    have hc2:CsAt H q lg ((w.O,w.pc+1)::w.cs) (.tup [ca,.tup [.loc o,.int (w.pc+1:Nat)]]):=.cons ho n1 n2 hc
    have t1:=t.upd [(0,.loc o),(1,.int w.pc),(2,.int w.a),(3,nmR w.nm),(4,mkV w.mks),(5,.tup [ca,.tup [.loc o,.int (w.pc+1:Nat)]])]
    have l1:LK q lg H (H.set wl (wayO o w.pc w.a (nmR w.nm) (mkV w.mks) (.tup [ca,.tup [.loc o,.int (w.pc+1:Nat)]]))):=.set hw0 (.inr (.inr fun l e=>by cases e))
    obtain⟨o2,H3,ec,lo,ho3,hl3,hk3⟩:=hC tx (H.set wl (wayO o w.pc w.a (nmR w.nm) (mkV w.mks) (.tup [ca,.tup [.loc o,.int (w.pc+1:Nat)]])))
    have t2:=t1.ext hl3 hk3
    have l3:LK q lg (H.set wl (wayO o w.pc w.a (nmR w.nm) (mkV w.mks) (.tup [ca,.tup [.loc o,.int (w.pc+1:Nat)]]))) H3:=fun i l e _ _=>(hk3 i (lt_get e)).trans e
    have hw3:H3[wl]? = some (wayO o w.pc w.a (nmR w.nm) (mkV w.mks) (.tup [ca,.tup [.loc o,.int (w.pc+1:Nat)]])):=(hk3 wl (by rw [List.length_set]; exact lt_get hw0)).trans (set_at hw0)
    have q1:o2≠q:=Nat.ne_of_gt (Nat.lt_of_lt_of_le (lt_get t1.hist) lo)
    have q2:o2≠lg:=Nat.ne_of_gt (Nat.lt_of_lt_of_le (lt_get t1.log) lo)
    exact .same (done_other rfl rfl rfl rfl rfl rfl t.mat (oth_ask t.mat (asked_ok t.mat hw0 ⟨_,t.host⟩ (value_ok t.host t.vals) e ec hw3))) (t2.upd _) (t2.wset (w':={ w with O:=[.one (.ch tx),.done],pc:=0,cs:=(w.O,w.pc+1)::w.cs }) ho3 q1 q2 (hc2.keep (l1.trans l3)))
  | @done O pc a nm mk O2 pc2 cs σ =>
    obtain⟨o,ca,hw0,ho,n1,n2,hc⟩:=hw
    cases hc with
    | cons h2 m1 m2 hc2=>exact .same (done_other rfl rfl rfl rfl rfl rfl t.mat (oth_done hw0)) (t.upd _) (t.wset (w':=⟨O2,pc2,a,nm,mk,cs⟩) h2 m1 m2 hc2)
end
noncomputable def odK:Od→List Nat
  | .one _=>[111,110,101]
  | .arbw=>[119,97,121,115]
  | .split _=>[115,112,108,105,116]
  | .jump _=>[106,117,109,112]
  | .mark=>[109,97,114,107]
  | .set _=>[115,101,116]
  | .gain=>[103,97,105,110]
  | .ask _=>[97,115,107]
  | .done=>[100,111,110,101]
theorem oV_word (od:Od):∃ r,oV od=.tup (.str (odK od)::r):=by cases od <;> exact⟨_,rfl⟩
theorem od_ab (od:Od):(odK od == [97,98,111,114,116])=false:=by cases od <;> rfl
theorem od_dn (od:Od):od=.done∨(odK od == [100,111,110,101])=false:=by cases od <;> first | exact .inl rfl | exact .inr rfl
noncomputable def tR:ME:=(.cmp .isnot (.loc 3) (.lit .none))
noncomputable def bR:List MS:=[(.expr (.meth (.attr (.loc 0) 7) 118 [])),(.asg (.loc 4) (.idx (.attr (.loc 3) 0) (.attr (.loc 3) 1))),(.ife (.and [(.cmp .eq (.idx (.loc 4) (.lit (.int 0))) (.glob (.str [100,111,110,101]))),(.cmp .is (.attr (.loc 3) 5) (.lit .none))]) [(.ret (.tup [(.glob (.int 0)),(.loc 3)]))] []),(.ife (.cmp .eq (.idx (.loc 4) (.lit (.int 0))) (.glob (.str [97,98,111,114,116]))) [(.ret (.tup [(.glob (.int 2)),(.lit .none)]))] []),(.ife (.not (.meth (.loc 0) 110 [(.loc 4),(.loc 3)])) [(.asg (.loc 3) (.meth (.loc 0) 109 [])),(.ife (.and [(.cmp .isnot (.loc 3) (.lit .none)),(.cmp .is (.attr (.loc 3) 0) (.lit .none))]) [(.ret (.tup [(.glob (.int 2)),(.lit .none)]))] [])] [])]
noncomputable abbrev rl (mo:Nat) (o bg:V) (w y:V):Lo:=[some (.loc mo),some o,some bg,some w,some y]
section
variable {own:List FI} {d:Nat} {H:Hp} {h mo q o wl pc a:Nat} {va rf lg nm mk ca:V} {m k:Int} {s:List Nat} {OV:List V} {x:List Nat} {r:List V} {o1 bg:V} {y:Option V} {H2 H3:Hp}
theorem rn_ok (hh:H[h]? = some (hostO va rf lg m k)) (hk:k<m) (hm:H[mo]? = some (matO s h q)) (hw:H[wl]? = some (wayO o pc a nm mk ca)) (ho:H[o]? = some (.list OV)) (n1:mo≠h) (n2:wl≠h) (n3:o≠h) (hpc:OV[pc]? = some (.tup (.str x::r))) (hx:(x == [100,111,110,101])=false) (hy:(x == [97,98,111,114,116])=false) (hd:callF (pgc own) (d+7) 51 [.loc mo,.tup (.str x::r),.loc wl] (H.set h (hostO va rf lg m (k+1)))=some (.bool true,H2)):exB (pgc own) (callF (pgc own) (d+7)) bR [some (.loc mo),some o1,some bg,some (.loc wl),y] H=some (.next,rl mo o1 bg (.loc wl) (.tup (.str x::r)),H2) :=
  s_seq (s_expr0 (r_meth (r_attr (r_loc rfl) (g_inst hm rfl)) hh rfl rfl r_nil (step_ok hh hk))) (s_seq (s_asg0 (r_idx (r_attr (r_loc rfl) (g_inst (set_off n2.symm hw) rfl)) (r_attr (r_loc rfl) (g_inst (set_off n2.symm hw) rfl)) (g_idxL (set_off n3.symm ho) (g_idx0 rfl hpc))) t_loc0) (s_seq (s_if_f (r_and_f (r_cmp (r_idx (r_loc rfl) r_lit rfl) r_glob (c_seq hx))) s_nil0) (s_seq (s_if_f (r_cmp (r_idx (r_loc rfl) r_lit rfl) r_glob (c_seq hy)) s_nil0) (s_seq (s_if_f (r_not (r_meth (r_loc rfl) (set_off n1.symm hm) rfl rfl (r_cons (r_loc rfl) (r_cons (r_loc rfl) r_nil)) hd)) s_nil0) s_nil0))))
theorem rn_okd (hh:H[h]? = some (hostO va rf lg m k)) (hk:k<m) (hm:H[mo]? = some (matO s h q)) (hw:H[wl]? = some (wayO o pc a nm mk ca)) (ho:H[o]? = some (.list OV)) (n1:mo≠h) (n2:wl≠h) (n3:o≠h) (hpc:OV[pc]? = some (.tup [.str [100,111,110,101]])) (hca:isNone0 ca=false) (hd:callF (pgc own) (d+7) 51 [.loc mo,.tup [.str [100,111,110,101]],.loc wl] (H.set h (hostO va rf lg m (k+1)))=some (.bool true,H2)):exB (pgc own) (callF (pgc own) (d+7)) bR [some (.loc mo),some o1,some bg,some (.loc wl),y] H=some (.next,rl mo o1 bg (.loc wl) (.tup [.str [100,111,110,101]]),H2) :=
  s_seq (s_expr0 (r_meth (r_attr (r_loc rfl) (g_inst hm rfl)) hh rfl rfl r_nil (step_ok hh hk))) (s_seq (s_asg0 (r_idx (r_attr (r_loc rfl) (g_inst (set_off n2.symm hw) rfl)) (r_attr (r_loc rfl) (g_inst (set_off n2.symm hw) rfl)) (g_idxL (set_off n3.symm ho) (g_idx0 rfl hpc))) t_loc0) (s_seq (s_if_f (r_and (r_cmp (r_idx (r_loc rfl) r_lit rfl) r_glob rfl) (r_and_f (r_cmp (r_attr (r_loc rfl) (g_inst (set_off n2.symm hw) rfl)) r_lit (congrArg some hca)))) s_nil0) (s_seq (s_if_f (r_cmp (r_idx (r_loc rfl) r_lit rfl) r_glob rfl) s_nil0) (s_seq (s_if_f (r_not (r_meth (r_loc rfl) (set_off n1.symm hm) rfl rfl (r_cons (r_loc rfl) (r_cons (r_loc rfl) r_nil)) hd)) s_nil0) s_nil0))))
theorem rn_back {o2:V} {w2:Nat} {fs:List (Nat×V)} (hh:H[h]? = some (hostO va rf lg m k)) (hk:k<m) (hm:H[mo]? = some (matO s h q)) (hw:H[wl]? = some (wayO o pc a nm mk ca)) (ho:H[o]? = some (.list OV)) (n1:mo≠h) (n2:wl≠h) (n3:o≠h) (hpc:OV[pc]? = some (.tup (.str x::r))) (hx:(x == [100,111,110,101])=false) (hy:(x == [97,98,111,114,116])=false) (hd:callF (pgc own) (d+7) 51 [.loc mo,.tup (.str x::r),.loc wl] (H.set h (hostO va rf lg m (k+1)))=some (.bool false,H2)) (hm2:H2[mo]? = some (matO s h q)) (hb:callF (pgc own) (d+7) 50 [.loc mo] H2=some (.loc w2,H3)) (hw2:H3[w2]? = some (.inst 2 ((0,o2)::fs))) (ho2:isNone0 o2=false):exB (pgc own) (callF (pgc own) (d+7)) bR [some (.loc mo),some o1,some bg,some (.loc wl),y] H=some (.next,rl mo o1 bg (.loc w2) (.tup (.str x::r)),H3) :=
  s_seq (s_expr0 (r_meth (r_attr (r_loc rfl) (g_inst hm rfl)) hh rfl rfl r_nil (step_ok hh hk))) (s_seq (s_asg0 (r_idx (r_attr (r_loc rfl) (g_inst (set_off n2.symm hw) rfl)) (r_attr (r_loc rfl) (g_inst (set_off n2.symm hw) rfl)) (g_idxL (set_off n3.symm ho) (g_idx0 rfl hpc))) t_loc0) (s_seq (s_if_f (r_and_f (r_cmp (r_idx (r_loc rfl) r_lit rfl) r_glob (c_seq hx))) s_nil0) (s_seq (s_if_f (r_cmp (r_idx (r_loc rfl) r_lit rfl) r_glob (c_seq hy)) s_nil0) (s_seq (s_if_t (r_not (r_meth (r_loc rfl) (set_off n1.symm hm) rfl rfl (r_cons (r_loc rfl) (r_cons (r_loc rfl) r_nil)) hd)) (s_seq (s_asg0 (r_meth (r_loc rfl) hm2 rfl rfl r_nil hb) t_loc0) (s_seq (s_if_f (r_and (r_cmp (r_loc rfl) r_lit rfl) (r_and_f (r_cmp (r_attr (r_loc rfl) (g_inst hw2 rfl)) r_lit (congrArg some ho2)))) s_nil0) s_nil0))) s_nil0))))
theorem rn_lost {w2:Nat} (hh:H[h]? = some (hostO va rf lg m k)) (hk:k<m) (hm:H[mo]? = some (matO s h q)) (hw:H[wl]? = some (wayO o pc a nm mk ca)) (ho:H[o]? = some (.list OV)) (n1:mo≠h) (n2:wl≠h) (n3:o≠h) (hpc:OV[pc]? = some (.tup (.str x::r))) (hx:(x == [100,111,110,101])=false) (hy:(x == [97,98,111,114,116])=false) (hd:callF (pgc own) (d+7) 51 [.loc mo,.tup (.str x::r),.loc wl] (H.set h (hostO va rf lg m (k+1)))=some (.bool false,H2)) (hm2:H2[mo]? = some (matO s h q)) (hb:callF (pgc own) (d+7) 50 [.loc mo] H2=some (.loc w2,H3)) (hw2:H3[w2]? = some wayN):exB (pgc own) (callF (pgc own) (d+7)) bR [some (.loc mo),some o1,some bg,some (.loc wl),y] H=some (.ret (.tup [.int 2,.none]),rl mo o1 bg (.loc w2) (.tup (.str x::r)),H3) :=
  s_seq (s_expr0 (r_meth (r_attr (r_loc rfl) (g_inst hm rfl)) hh rfl rfl r_nil (step_ok hh hk))) (s_seq (s_asg0 (r_idx (r_attr (r_loc rfl) (g_inst (set_off n2.symm hw) rfl)) (r_attr (r_loc rfl) (g_inst (set_off n2.symm hw) rfl)) (g_idxL (set_off n3.symm ho) (g_idx0 rfl hpc))) t_loc0) (s_seq (s_if_f (r_and_f (r_cmp (r_idx (r_loc rfl) r_lit rfl) r_glob (c_seq hx))) s_nil0) (s_seq (s_if_f (r_cmp (r_idx (r_loc rfl) r_lit rfl) r_glob (c_seq hy)) s_nil0) (s_stop (s_if_t (r_not (r_meth (r_loc rfl) (set_off n1.symm hm) rfl rfl (r_cons (r_loc rfl) (r_cons (r_loc rfl) r_nil)) hd)) (s_seq (s_asg0 (r_meth (r_loc rfl) hm2 rfl rfl r_nil hb) t_loc0) (s_stop (s_if_t (r_and (r_cmp (r_loc rfl) r_lit rfl) (r_and (r_cmp (r_attr (r_loc rfl) (g_inst hw2 rfl)) r_lit rfl) r_and0)) (s_stop (s_ret0 (r_tup (r_cons r_glob (r_cons r_lit r_nil)))))))))))))
theorem rn_end (hh:H[h]? = some (hostO va rf lg m k)) (hk:k<m) (hm:H[mo]? = some (matO s h q)) (hw:H[wl]? = some (wayO o pc a nm mk ca)) (ho:H[o]? = some (.list OV)) (n1:mo≠h) (n2:wl≠h) (n3:o≠h) (hpc:OV[pc]? = some (.tup (.str x::r))) (hx:(x == [100,111,110,101])=false) (hy:(x == [97,98,111,114,116])=false) (hd:callF (pgc own) (d+7) 51 [.loc mo,.tup (.str x::r),.loc wl] (H.set h (hostO va rf lg m (k+1)))=some (.bool false,H2)) (hm2:H2[mo]? = some (matO s h q)) (hb:callF (pgc own) (d+7) 50 [.loc mo] H2=some (.none,H3)):exB (pgc own) (callF (pgc own) (d+7)) bR [some (.loc mo),some o1,some bg,some (.loc wl),y] H=some (.next,rl mo o1 bg .none (.tup (.str x::r)),H3) :=
  s_seq (s_expr0 (r_meth (r_attr (r_loc rfl) (g_inst hm rfl)) hh rfl rfl r_nil (step_ok hh hk))) (s_seq (s_asg0 (r_idx (r_attr (r_loc rfl) (g_inst (set_off n2.symm hw) rfl)) (r_attr (r_loc rfl) (g_inst (set_off n2.symm hw) rfl)) (g_idxL (set_off n3.symm ho) (g_idx0 rfl hpc))) t_loc0) (s_seq (s_if_f (r_and_f (r_cmp (r_idx (r_loc rfl) r_lit rfl) r_glob (c_seq hx))) s_nil0) (s_seq (s_if_f (r_cmp (r_idx (r_loc rfl) r_lit rfl) r_glob (c_seq hy)) s_nil0) (s_seq (s_if_t (r_not (r_meth (r_loc rfl) (set_off n1.symm hm) rfl rfl (r_cons (r_loc rfl) (r_cons (r_loc rfl) r_nil)) hd)) (s_seq (s_asg0 (r_meth (r_loc rfl) hm2 rfl rfl r_nil hb) t_loc0) (s_seq (s_if_f (r_and_f (r_cmp (r_loc rfl) r_lit rfl)) s_nil0) s_nil0))) s_nil0))))
theorem rn_met (hh:H[h]? = some (hostO va rf lg m k)) (hk:k<m) (hm:H[mo]? = some (matO s h q)) (hw:H[wl]? = some (wayO o pc a nm mk .none)) (ho:H[o]? = some (.list OV)) (n1:mo≠h) (n2:wl≠h) (n3:o≠h) (hpc:OV[pc]? = some (.tup [.str [100,111,110,101]])):exB (pgc own) (callF (pgc own) (d+7)) bR [some (.loc mo),some o1,some bg,some (.loc wl),y] H=some (.ret (.tup [.int 0,.loc wl]),rl mo o1 bg (.loc wl) (.tup [.str [100,111,110,101]]),(H.set h (hostO va rf lg m (k+1)))) :=
  s_seq (s_expr0 (r_meth (r_attr (r_loc rfl) (g_inst hm rfl)) hh rfl rfl r_nil (step_ok hh hk))) (s_seq (s_asg0 (r_idx (r_attr (r_loc rfl) (g_inst (set_off n2.symm hw) rfl)) (r_attr (r_loc rfl) (g_inst (set_off n2.symm hw) rfl)) (g_idxL (set_off n3.symm ho) (g_idx0 rfl hpc))) t_loc0) (s_stop (s_if_t (r_and (r_cmp (r_idx (r_loc rfl) r_lit rfl) r_glob rfl) (r_and (r_cmp (r_attr (r_loc rfl) (g_inst (set_off n2.symm hw) rfl)) r_lit rfl) r_and0)) (s_stop (s_ret0 (r_tup (r_cons r_glob (r_cons (r_loc rfl) r_nil))))))))
theorem tR_t:evE (pgc own) (callF (pgc own) (d+7)) tR [some (.loc mo),some o1,some bg,some (.loc wl),y] H=some (.bool true,H):=by kernel_rfl
theorem tR_f:evE (pgc own) (callF (pgc own) (d+7)) tR [some (.loc mo),some o1,some bg,some .none,y] H=some (.bool false,H):=by kernel_rfl
end
structure Bc (K:List (List Nat)) (s:List Nat) (j k:Nat) (L:List (Option CW)) (w:CW) (σ:Hs):Prop where
  l:L.length≤k * (s.length+1)
  n:w.nm.length≤k
  ws:∀ z∈L,∀ u,z=some u→u.nm.length≤k
  g:σ.log.length≤j+k
  v:Kd K σ.vals
section
variable {kp:Nat→Option (List Nat)} {own:List FI} {d:Nat} {H H0:Hp} {mo q h va rf lg wl:Nat} {m:Int} {s:List Nat} {hs:List (Nat×Option CW)} {k j:Nat} {σ:Hs} {w:CW} {K:List (List Nat)} {L:List (Option CW)}
theorem Bc.pop {w2:CW} (b:Bc K s j k (L++[some w2]) w σ):Bc K s j (k+1) L w2 σ :=
  ⟨Nat.le_trans (Nat.le_trans (by rw [List.length_append]; exact Nat.le_add_right ..) b.l) (Nat.mul_le_mul_right _ (Nat.le_succ _)),Nat.le_succ_of_le (b.ws _ (List.mem_append_right _ (.head _)) w2 rfl),fun z hz u e=>Nat.le_succ_of_le (b.ws z (List.mem_append_left _ hz) u e),Nat.le_succ_of_le b.g,b.v⟩
structure OdF (K:List (List Nat)) (s:List Nat) (w w':CW) (σ σ':Hs) (ps:List (Option CW)):Prop where
  l:ps.length≤s.length+1
  n:w'.nm.length≤w.nm.length+1
  ws:∀ z∈ps,∀ u,z=some u→u.nm=w.nm
  g:σ'.log.length≤σ.log.length+1
  v:Kd K σ.vals→Kd K σ'.vals
theorem od1 {w:CW} {z:Option CW} (hz:∀ u,z=some u→u.nm=w.nm):∀ y∈[z],∀ u,y=some u→u.nm=w.nm:=fun y hy u e=>hz u ((List.mem_singleton.mp hy).symm.trans e)
noncomputable def OdP (K:List (List Nat)) (s:List Nat) (w:CW) (σ:Hs):CAdv→Prop
  | .go w' σ' ps=>OdF K s w w' σ σ' ps
  | .no=>True
theorem OdR.factP (hK:∀ q key,kp q=some key→key∈K) {od:Od} {A:CAdv} (X:OdR kp s od w σ A):OdP K s w σ A:=by
  cases X with
  | arbw e=>exact⟨by rw [List.length_map,List.length_reverse,List.length_range']; omega,Nat.le_succ _,(fun z hz u e=>by obtain⟨x,_,rfl⟩:=List.mem_map.mp hz; cases e; rfl),Nat.le_succ _,id⟩
  | split=>exact⟨Nat.le_add_left ..,Nat.le_succ _,(od1 fun u e=>by cases e; rfl),Nat.le_succ _,id⟩
  | set e=>exact⟨Nat.zero_le _,Nat.le_succ _,(fun z hz=>nomatch hz),Nat.le_of_eq (asgn_len ..),fun h=>h.put (hK _ _ e) _⟩
  | onef=>trivial
  | gainf=>trivial
  | _=>exact⟨Nat.zero_le _,Nat.le_succ _,(fun z hz=>nomatch hz),Nat.le_succ _,id⟩
theorem OdR.facts (hK:∀ q key,kp q=some key→key∈K) {od:Od} {w':CW} {σ':Hs} {ps:List (Option CW)} (X:OdR kp s od w σ (.go w' σ' ps)):OdF K s w w' σ σ' ps:=X.factP hK
theorem Bc.go (hK:∀ q key,kp q=some key→key∈K) (b:Bc K s j k L w σ) {od:Od} {w':CW} {σ':Hs} {ps:List (Option CW)} (X:OdR kp s od w σ (.go w' σ' ps)):Bc K s j (k+1) (L++ps) w' σ':=by
  obtain⟨f1,f2,f3,f4,f5⟩:=X.facts hK
  have b1:=b.l
  have b2:=b.n
  have b3:=b.g
  exact⟨by rw [List.length_append,Nat.succ_mul]; exact Nat.not_lt.mp (lin [_,_,_,_] (.c 1 (.v 0) (.a (.v 1) (.n 1)) (.c 1 (.v 2) (.v 3) (.c 1 (.a (.a (.v 3) (.a (.v 1) (.n 1))) (.n 1)) (.a (.v 2) (.v 0)) .z))) rfl f1 b1),by exact Nat.not_lt.mp (lin [_,_,_] (.c 1 (.v 0) (.a (.v 1) (.n 1)) (.c 1 (.v 1) (.v 2) (.c 1 (.a (.a (.v 2) (.n 1)) (.n 1)) (.v 0) .z))) rfl f2 b2),fun z hz u e=>(List.mem_append.mp hz).elim (fun hz=>Nat.le_succ_of_le (b.ws z hz u e)) (fun hz=>by rw [f3 z hz u e]; exact Nat.not_lt.mp (lin [_,_] (.c 1 (.v 0) (.v 1) (.c 1 (.a (.a (.v 1) (.n 1)) (.n 1)) (.v 0) .z)) rfl b2)),by exact Nat.not_lt.mp (lin [_,_,_,_] (.c 1 (.v 0) (.a (.v 1) (.n 1)) (.c 1 (.v 1) (.a (.v 2) (.v 3)) (.c 1 (.a (.a (.v 2) (.a (.v 3) (.n 1))) (.n 1)) (.v 0) .z))) rfl f4 b3),f5 b.v⟩
theorem Bc.lc (b:Bc K s j k (hs.map (·.2)) w σ) (hk:(k:Int)<m) (hm:m<100000) (hb:m * (s.length+1)≤1000000) (hj:j≤100000) (hK:K.length<1024) (hs1:s.length<1000):Lc hs σ s:=by
  have b1:=b.l
  have b3:=b.g
  rw [List.length_map] at b1
  have h1:((k * (s.length+1):Nat):Int)≤1000000:=by
    have:(k:Int) * ((s.length+1:Nat):Int)≤m * ((s.length+1:Nat):Int):=Int.mul_le_mul_of_nonneg_right (Int.le_of_lt hk) (Int.natCast_nonneg _)
    rw [Int.natCast_mul]; exact Int.le_trans this hb
  exact⟨by unfold lim; omega,Nat.lt_of_le_of_lt b.v.len hK,by unfold lim; omega,hs1⟩
inductive RnEnd (x:SR) (kp:Nat→Option (List Nat)) (H0:Hp) (mo q h va rf lg:Nat) (m:Int) (s:List Nat) (τ:Hs) (k':Nat):RRes→Prop where
  | met (w:CW) (l':Lo) (H':Hp) (wl':Nat) (hs':List (Nat×Option CW)) (e:x=some (.ret (.tup [.int 0,.loc wl']),l',H')) (t:CS kp H0 mo q h va rf lg m s wl' hs' k' τ H') (hw:WAt H' q lg wl' w) (hn:w.nm.length≤k'):RnEnd x kp H0 mo q h va rf lg m s τ k' (.met w)
  | non (l':Lo) (H':Hp) (wl':Nat) (hs':List (Nat×Option CW)) (e:x=some (.next,l',H')) (t:CS kp H0 mo q h va rf lg m s wl' hs' k' τ H'):RnEnd x kp H0 mo q h va rf lg m s τ k' .non
  | lost (l':Lo) (H':Hp) (wl':Nat) (hs':List (Nat×Option CW)) (e:x=some (.ret (.tup [.int 2,.none]),l',H')) (t:CS kp H0 mo q h va rf lg m s wl' hs' k' τ H'):RnEnd x kp H0 mo q h va rf lg m s τ k' .lost
theorem RnEnd.of {x y:SR} (e0:x=y) {τ:Hs} {k':Nat} {R:RRes} (r:RnEnd y kp H0 mo q h va rf lg m s τ k' R):RnEnd x kp H0 mo q h va rf lg m s τ k' R:=e0▸r
structure Rg (kp:Nat→Option (List Nat)) (K:List (List Nat)) (s:List Nat) (m:Int) (j:Nat):Prop where
  g:Gx kp K s m j
  hb:m * (s.length+1)≤1000000
theorem rn_run (hC:∀ t H,CompE own d t H) (g:Rg kp K s m j) {R:RRes} {τ:Hs} {k':Nat} (T:Rn kp s w L σ k R τ k'):∀ {H:Hp} {wl:Nat} {hs:List (Nat×Option CW)} {f:Nat} {o1 bg:V} {y:Option V},CS kp H0 mo q h va rf lg m s wl hs k σ H→WAt H q lg wl w→hs.map (·.2)=L→(k':Int)≤m→k'<k+f→Bc K s j k L w σ →
    RnEnd (whlN (evE (pgc own) (callF (pgc own) (d+7)) tR) (exB (pgc own) (callF (pgc own) (d+7)) bR) f [some (.loc mo),some o1,some bg,some (.loc wl),y] H) kp H0 mo q h va rf lg m s τ k' R:=by
  have hm:=g.g.hm
  induction T with
  | @met w L σ k e0 e1 =>
    intro H wl hs f o1 bg y t hw hL hk hf b
    obtain⟨f,rfl⟩:∃ g,f=g+1:=Nat.exists_eq_add_one.mpr (by exact Nat.not_le.mp (lin [_,_] (.c 1 (.a (.a (.v 0) (.n 1)) (.n 1)) (.a (.v 0) (.v 1)) (.c 1 (.v 1) (.n 0) .z)) rfl hf))
    have hw':=hw
    obtain⟨o,ca,hw0,ho,n1,n2,hc⟩:=hw
    rw [e1] at hc; cases hc
    have n3:o≠h:=ob_ne ho t.host (fun e=>by cases e)
    refine .met w _ _ wl hs (wn_ret tR_t (rn_met t.host (by omega) t.mat hw0 ho t.m1 t.w3 n3 (by rw [List.getElem?_map,e0]; rfl))) t.tick (hw'.keep (.set t.host (.inr (.inr fun l e=>by cases e))) fun x e=>set_off t.w3.symm e) (Nat.le_succ_of_le b.n)
  | @go w L σ k R τ k' od w' σ' ps e0 X T ih =>
    intro H wl hs f o1 bg y t hw hL hk hf b
    have hmo:=T.mono
    obtain⟨f,rfl⟩:∃ g,f=g+1:=Nat.exists_eq_add_one.mpr (by exact Nat.not_le.mp (lin [_,_,_] (.c 1 (.a (.v 0) (.n 1)) (.a (.v 1) (.v 2)) (.c 1 (.a (.a (.v 1) (.n 1)) (.n 1)) (.v 0) (.c 1 (.v 2) (.n 0) .z))) rfl hf hmo))
    subst hL
    have w1:=hw.keep (H':=H.set h (hostO (.loc va) (.loc rf) (.loc lg) m (k+1))) (.set t.host (.inr (.inr fun l e=>by cases e))) fun x e=>set_off t.w3.symm e
    have hd:=done_ok (own:=own) (d:=d) hC X t.tick w1 (b.lc (by omega) hm g.hb g.g.hj g.g.kl g.g.hs)
    cases hd with
    | go _ _ _ hs' H' e1 t1 w2 hp =>
    obtain⟨o,ca,hw0,ho,n1,n2,hc⟩:=hw
    have n3:o≠h:=ob_ne ho t.host (fun e=>by cases e)
    have q1:=ih t1 w2 (f:=f) (o1:=o1) (bg:=bg) (y:=some (oV od)) (by rw [List.map_append,hp]) hk (by exact Nat.not_le.mp (lin [_,_,_] (.c 1 (.a (.v 0) (.n 1)) (.a (.v 1) (.a (.v 2) (.n 1))) (.c 1 (.a (.a (.v 1) (.n 1)) (.v 2)) (.v 0) .z)) rfl hf)) (b.go g.g.hK X)
    refine RnEnd.of (wn_next tR_t ?_ rfl) q1
    have hpc:(w.O.map oV)[w.pc]? = some (oV od):=by rw [List.getElem?_map,e0]; rfl
    rcases od_dn od with rfl | hx
    · have hca:isNone0 ca=false:=by cases X; cases hc; rfl
      exact rn_okd t.host (by omega) t.mat hw0 ho t.m1 t.w3 n3 hpc hca e1
    · obtain⟨r,er⟩:=oV_word od
      rw [er] at e1 hpc ⊢
      exact rn_ok t.host (by omega) t.mat hw0 ho t.m1 t.w3 n3 hpc hx (od_ab od) e1
  | @pop w L σ k R τ k' od w2 e0 X T ih =>
    intro H wl hs f o1 bg y t hw hL hk hf b
    have hmo:=T.mono
    obtain⟨f,rfl⟩:∃ g,f=g+1:=Nat.exists_eq_add_one.mpr (by exact Nat.not_le.mp (lin [_,_,_] (.c 1 (.a (.v 0) (.n 1)) (.a (.v 1) (.v 2)) (.c 1 (.a (.a (.v 1) (.n 1)) (.n 1)) (.v 0) (.c 1 (.v 2) (.n 0) .z))) rfl hf hmo))
    obtain⟨hs1,z,rfl,h1,h2⟩:∃ hs1 z,hs=hs1++[z]∧hs1.map (·.2)=L∧z.2=some w2:=by
      rcases List.eq_nil_or_concat hs with rfl | ⟨hs1,z,rfl⟩
      · exact absurd hL (by simp)
      · rw [List.concat_eq_append,map_snoc] at hL
        obtain⟨a,b⟩:=List.append_inj' hL rfl
        exact⟨hs1,z,List.concat_eq_append,a,List.singleton_inj.mp b⟩
    have w1:=hw.keep (H':=H.set h (hostO (.loc va) (.loc rf) (.loc lg) m (k+1))) (.set t.host (.inr (.inr fun l e=>by cases e))) fun x e=>set_off t.w3.symm e
    have hd:=done_ok (own:=own) (d:=d) hC X t.tick w1 (Bc.lc (by rw [hL]; exact b) (by omega) hm g.hb g.g.hj g.g.kl g.g.hs)
    cases hd with
    | no H' e1 t1 =>
    obtain⟨o,ca,hw0,ho,n1,n2,hc⟩:=hw
    have n3:o≠h:=ob_ne ho t.host (fun e=>by cases e)
    have hpc:(w.O.map oV)[w.pc]? = some (oV od):=by rw [List.getElem?_map,e0]; rfl
    have hx:(odK od == [100,111,110,101])=false:=by
      rcases od_dn od with rfl | hx
      · cases X
      · exact hx
    obtain⟨t2,w3⟩:=t1.pop
    rw [h2] at w3
    have hh:t1.hist=t1.hist:=rfl
    have hb1:=back_t (own:=own) (d:=d+6) t1.mat (L:=hs1.map fun x=>V.loc x.1) (v:=.loc z.1) (by have:=t1.hist; rw [map_snoc] at this; exact this)
    have w3':=w3
    obtain⟨o4,ca4,hw4,_,_,_,_⟩:=w3
    have q1:=ih t2 w3' (f:=f) (o1:=o1) (bg:=bg) (y:=some (oV od)) h1 hk (by exact Nat.not_le.mp (lin [_,_,_] (.c 1 (.a (.v 0) (.n 1)) (.a (.v 1) (.a (.v 2) (.n 1))) (.c 1 (.a (.a (.v 1) (.n 1)) (.v 2)) (.v 0) .z)) rfl hf)) b.pop
    refine RnEnd.of (wn_next tR_t ?_ rfl) q1
    obtain⟨r,er⟩:=oV_word od
    rw [er] at e1 hpc ⊢
    exact rn_back t.host (by omega) t.mat hw0 ho t.m1 t.w3 n3 hpc hx (od_ab od) e1 t1.mat hb1 hw4 rfl
  | @non w σ k od e0 X =>
    intro H wl hs f o1 bg y t hw hL hk hf b
    obtain⟨f,rfl⟩:∃ g,f=g+1:=Nat.exists_eq_add_one.mpr (by exact Nat.not_le.mp (lin [_,_] (.c 1 (.a (.a (.v 0) (.n 1)) (.n 1)) (.a (.v 0) (.v 1)) (.c 1 (.v 1) (.n 0) .z)) rfl hf))
    obtain⟨f,rfl⟩:∃ g,f=g+1:=Nat.exists_eq_add_one.mpr (by exact Nat.not_le.mp (lin [_,_] (.c 1 (.a (.a (.v 0) (.n 1)) (.n 1)) (.a (.v 0) (.a (.v 1) (.n 1))) (.c 1 (.v 1) (.n 0) .z)) rfl hf))
    cases List.map_eq_nil_iff.mp hL
    have w1:=hw.keep (H':=H.set h (hostO (.loc va) (.loc rf) (.loc lg) m (k+1))) (.set t.host (.inr (.inr fun l e=>by cases e))) fun x e=>set_off t.w3.symm e
    have hd:=done_ok (own:=own) (d:=d) hC X t.tick w1 (Bc.lc b (by omega) hm g.hb g.g.hj g.g.kl g.g.hs)
    cases hd with
    | no H' e1 t1 =>
    obtain⟨o,ca,hw0,ho,n1,n2,hc⟩:=hw
    have n3:o≠h:=ob_ne ho t.host (fun e=>by cases e)
    have hpc:(w.O.map oV)[w.pc]? = some (oV od):=by rw [List.getElem?_map,e0]; rfl
    have hx:(odK od == [100,111,110,101])=false:=by
      rcases od_dn od with rfl | hx
      · cases X
      · exact hx
    obtain⟨r,er⟩:=oV_word od
    rw [er] at e1 hpc
    exact .non _ H' wl [] (wn_next tR_t (rn_end t.host (by omega) t.mat hw0 ho t.m1 t.w3 n3 hpc hx (od_ab od) e1 t1.mat (back_f (own:=own) (d:=d+6) t1.mat t1.hist)) (wn_end tR_f)) t1
  | @lost w L σ k od e0 X =>
    intro H wl hs f o1 bg y t hw hL hk hf b
    obtain⟨f,rfl⟩:∃ g,f=g+1:=Nat.exists_eq_add_one.mpr (by exact Nat.not_le.mp (lin [_,_] (.c 1 (.a (.a (.v 0) (.n 1)) (.n 1)) (.a (.v 0) (.v 1)) (.c 1 (.v 1) (.n 0) .z)) rfl hf))
    obtain⟨hs1,z,rfl,h1,h2⟩:∃ hs1 z,hs=hs1++[z]∧hs1.map (·.2)=L∧z.2=none:=by
      rcases List.eq_nil_or_concat hs with rfl | ⟨hs1,z,rfl⟩
      · exact absurd hL (by simp)
      · rw [List.concat_eq_append,map_snoc] at hL
        obtain⟨a,b⟩:=List.append_inj' hL rfl
        exact⟨hs1,z,List.concat_eq_append,a,List.singleton_inj.mp b⟩
    have w1:=hw.keep (H':=H.set h (hostO (.loc va) (.loc rf) (.loc lg) m (k+1))) (.set t.host (.inr (.inr fun l e=>by cases e))) fun x e=>set_off t.w3.symm e
    have hd:=done_ok (own:=own) (d:=d) hC X t.tick w1 (Bc.lc (by rw [hL]; exact b) (by omega) hm g.hb g.g.hj g.g.kl g.g.hs)
    cases hd with
    | no H' e1 t1 =>
    obtain⟨o,ca,hw0,ho,n1,n2,hc⟩:=hw
    have n3:o≠h:=ob_ne ho t.host (fun e=>by cases e)
    have hpc:(w.O.map oV)[w.pc]? = some (oV od):=by rw [List.getElem?_map,e0]; rfl
    have hx:(odK od == [100,111,110,101])=false:=by
      rcases od_dn od with rfl | hx
      · cases X
      · exact hx
    obtain⟨t2,w3⟩:=t1.pop
    rw [h2] at w3
    have hb1:=back_t (own:=own) (d:=d+6) t1.mat (L:=hs1.map fun x=>V.loc x.1) (v:=.loc z.1) (by have:=t1.hist; rw [map_snoc] at this; exact this)
    obtain⟨r,er⟩:=oV_word od
    rw [er] at e1 hpc
    exact .lost _ _ z.1 hs1 (wn_ret tR_t (rn_lost t.host (by omega) t.mat hw0 ho t.m1 t.w3 n3 hpc hx (od_ab od) e1 t1.mat hb1 w3)) t2
end
theorem setN {H:Hp} {x y:O}:(H++[x]).set H.length y=H++[y]:=by rw [List.set_append_right _ _ (Nat.le_refl _),Nat.sub_self]; rfl
theorem g_appN {H:Hp} {ls:List V} {v:V} (h:ls.length<lim):bmV .append (.loc H.length) [v] (H++[.list ls])=some (.none,H++[.list (ls++[v])]):=by rw [g_append app_new h,setN]
theorem g_revN {H:Hp} {ls:List V}:bmV .reverse (.loc H.length) [] (H++[.list ls])=some (.none,H++[.list ls.reverse]):=(atL_at app_new).trans (by rw [setN])
section
variable {own:List FI} {d:Nat} {H H0:Hp} {h mo q o wl va rf lg:Nat} {m:Int} {k k' j:Nat} {s:List Nat} {σ τ:Hs} {kp:Nat→Option (List Nat)} {K:List (List Nat)}
noncomputable def tN:ME:=(.cmp .isnot (.loc 0) (.lit .none))
noncomputable def bN:List MS:=[(.asg (.tup [(.loc 0),(.loc 2)]) (.loc 0)),(.expr (.bmeth (.loc 1) .append [(.loc 2)]))]
theorem rows_step {x:Nat×List Nat} {r:V} {y:Option V} {X:List V} (h:X.length<lim):exB (pgc own) (callF (pgc own) d) bN [some (.tup [r,.tup [.loc x.1,.str x.2]]),some (.loc H.length),y] (H++[.list X])=some (.next,[some r,some (.loc H.length),some (.tup [.loc x.1,.str x.2])],H++[.list (X++[.tup [.loc x.1,.str x.2]])]) :=
  s_seq (s_asg0 (r_loc rfl) (t_tup0 (by rfl) (t_cons0 t_loc0 (t_cons0 t_loc0 t_nil0)))) (s_seq (s_expr0 (r_bm (r_loc rfl) (g_kindL (by solve_by_elim [app_new,set_at,set_off,app_in,ne_len,len_ne,Ne.symm]) rfl) (r_cons (r_loc rfl) r_nil) (g_appN h))) s_nil0)
theorem rows_loop:∀(nm:Nm) (X:List V) (f:Nat) (y:Option V),nm.length<f→X.length+nm.length<lim →
    ∃ y',whlN (evE (pgc own) (callF (pgc own) d) tN) (exB (pgc own) (callF (pgc own) d) bN) f [some (nmR nm),some (.loc H.length),y] (H++[.list X])=some (.next,[some .none,some (.loc H.length),y'],H++[.list (X++nmL nm)])
  | [],X,f+1,y,_,_=>⟨y,by rw [show X++nmL [] = X from List.append_nil X]; exact wn_end rfl⟩
  | x::r,X,f+1,y,hf,hX=>by
    rw [List.length_cons] at hX
    obtain⟨y',e⟩:=rows_loop r (X++[.tup [.loc x.1,.str x.2]]) f (some (.tup [.loc x.1,.str x.2])) (Nat.lt_of_succ_lt_succ hf) (by rw [List.length_append,List.length_singleton]; exact Nat.not_le.mp (lin [_,_,_] (.c 1 (.a (.a (.v 0) (.a (.v 1) (.n 1))) (.n 1)) (.v 2) (.c 1 (.v 2) (.a (.a (.v 0) (.n 1)) (.v 1)) .z)) rfl hX))
    refine⟨y',wn_next rfl (rows_step (by exact Nat.not_le.mp (lin [_,_,_] (.c 1 (.a (.a (.v 0) (.a (.v 1) (.n 1))) (.n 1)) (.v 2) (.c 1 (.v 2) (.v 0) .z)) rfl hX))) (e.trans ?_)⟩
    rw [List.append_assoc]; rfl
theorem rows_ok {nm:Nm} (h:nm.length<1000000):callF (pgc own) (d+1) 57 [nmR nm] H=some (.loc H.length,H++[.list (nmL nm.reverse)]):=by
  obtain⟨y',e⟩:=rows_loop (own:=own) (d:=d) (H:=H) nm [] 1048576 none (by exact Nat.not_le.mp (lin [_] (.c 1 (.a (.v 0) (.n 1)) (.n 1000000) (.c 1 (.n 1048576) (.v 0) .z)) rfl h)) (by rw [List.length_nil]; unfold lim; exact Nat.not_le.mp (lin [_] (.c 1 (.a (.v 0) (.n 1)) (.n 1000000) (.c 1 (.n 1048576) (.a (.n 0) (.v 0)) .z)) rfl h))
  rw [nmL,List.map_reverse]
  exact call_ret rfl rfl (s_seq (s_asg0 (r_lst r_nil) t_loc0) (s_seq (s_whl0 e) (s_seq (s_expr0 (r_bm (r_loc rfl) ((by unfold bmK; simp only [app_new])) r_nil g_revN)) (s_stop (s_ret0 (r_loc rfl))))))
theorem mat_init:callF (pgc own) (d+1) 48 [.loc H.length,.str s,.loc h] (H++[.inst 3 []])=some (.none,(H++[O.inst 3 [(6,.str s),(7,.loc h)]]++[O.list []]).set H.length (matO s h (H.length+1))) :=
  call_next rfl rfl (s_seq (s_asg0 (r_loc rfl) (t_attr0 (r_loc rfl) g_setN)) (s_seq (s_asg0 (r_loc rfl) (t_attr0 (r_loc rfl) g_setN)) (s_seq (s_asg0 (r_lst r_nil) (t_attr0 (r_loc rfl) ((g_setA (app_in app_new)).trans (by rw [List.length_append]; rfl)))) s_nil0)))
inductive RunE (own:List FI) (d:Nat) (kp:Nat→Option (List Nat)) (H0:Hp) (mo o b q h va rf lg:Nat) (m:Int) (τ:Hs) (k':Nat) (H:Hp):RRes→Prop where
  | met (w:CW) (wl:Nat) (H':Hp) (e:callF (pgc own) (d+8) 49 [.loc mo,.loc o,.int b] H=some (.tup [.int 0,.loc wl],H')) (x:HX kp h va rf lg m k' τ H') (ho:HO h va lg H0 H') (hw:WAt H' q lg wl w) (hn:w.nm.length≤k'):RunE own d kp H0 mo o b q h va rf lg m τ k' H (.met w)
  | non (H':Hp) (e:callF (pgc own) (d+8) 49 [.loc mo,.loc o,.int b] H=some (.tup [.int 1,.none],H')) (x:HX kp h va rf lg m k' τ H') (ho:HO h va lg H0 H'):RunE own d kp H0 mo o b q h va rf lg m τ k' H .non
  | lost (H':Hp) (e:callF (pgc own) (d+8) 49 [.loc mo,.loc o,.int b] H=some (.tup [.int 2,.none],H')) (x:HX kp h va rf lg m k' τ H') (ho:HO h va lg H0 H'):RunE own d kp H0 mo o b q h va rf lg m τ k' H .lost
theorem run_fn (hC:∀ t H,CompE own d t H) (g:Rg kp K s m j) {Os:List Od} {R:RRes} {b:Nat} (hk:(k':Int)≤m) (T:Rn kp s ⟨Os,0,b,[],[],[]⟩ [] σ k R τ k') (x:HX kp h va rf lg m k σ H) (mat:H[mo]? = some (matO s h q)) (hist:H[q]? = some (.list [])) (ord:H[o]? = some (.list (Os.map oV)))
    (hl:σ.log.length≤j+k) (hv:Kd K σ.vals) (len:H0.length≤H.length) (off:∀ i,i<H0.length→i≠h→i≠va→i≠lg→H[i]? = H0[i]?) (oq:o≠q) (ol:o≠lg) (qlo:H0.length≤q) (n4:q≠lg) (n5:q≠rf):RunE own d kp H0 mo o b q h va rf lg m τ k' H R:=by
  have hm:=g.g.hm
  have hmo:=T.mono
  have c:CS kp H0 mo q h va rf lg m s H.length [] k σ (H++[wayO o 0 b .none .none .none]) :=
    { len:=by rw [List.length_append]; exact Nat.le_add_right_of_le len
      mat:=app_in mat,hist:=app_in hist,host:=app_in x.host,vals:=app_in x.vals,log:=app_in x.log,ref:=app_in x.ref
      rk:=fun r key e=>app_in (x.rk r key e)
      ws:=fun x h=>(nomatch h),way:=⟨_,app_new⟩,nd:=fun x h=>(nomatch h),nd2:=.nil
      off:=fun i h1 h2 h3 h4=>(List.getElem?_append_left (Nat.lt_of_lt_of_le h1 len)).trans (off i h1 h2 h3 h4)
      wlo:=len,wslo:=fun x h=>(nomatch h),qlo:=qlo,n3:=x.n3,n4:=n4,n5:=n5 }
  have hw:WAt (H++[wayO o 0 b .none .none .none]) q lg H.length ⟨Os,0,b,[],[],[]⟩:=⟨o,.none,app_new,app_in ord,oq,ol,.nil⟩
  have r:=rn_run (own:=own) (d:=d) hC g T (o1:=.loc o) (bg:=.int b) (y:=none) (f:=1048576) c hw rfl hk (by omega) ⟨Nat.zero_le _,Nat.zero_le _,(fun z h=>nomatch h),hl,hv⟩
  cases r with
  | met w l' H' wl' hs' e t hw hn=>exact .met w wl' H' (call_ret rfl rfl (s_seq (s_asg0 (r_new (r_cons (r_loc rfl) (r_cons r_lit (r_cons (r_loc rfl) (r_cons r_lit (r_cons r_lit (r_cons r_lit r_nil)))))) rfl way_init) t_loc0) (s_stop (s_whl0 e)))) ⟨t.host,t.vals,t.log,t.ref,t.rk,t.n3⟩ ⟨t.len,t.off⟩ hw hn
  | non l' H' wl' hs' e t=>exact .non H' (call_ret rfl rfl (s_seq (s_asg0 (r_new (r_cons (r_loc rfl) (r_cons r_lit (r_cons (r_loc rfl) (r_cons r_lit (r_cons r_lit (r_cons r_lit r_nil)))))) rfl way_init) t_loc0) (s_seq (s_whl0 e) (s_stop (s_ret0 (r_tup (r_cons r_glob (r_cons r_lit r_nil)))))))) ⟨t.host,t.vals,t.log,t.ref,t.rk,t.n3⟩ ⟨t.len,t.off⟩
  | lost l' H' wl' hs' e t=>exact .lost H' (call_ret rfl rfl (s_seq (s_asg0 (r_new (r_cons (r_loc rfl) (r_cons r_lit (r_cons (r_loc rfl) (r_cons r_lit (r_cons r_lit (r_cons r_lit r_nil)))))) rfl way_init) t_loc0) (s_stop (s_whl0 e)))) ⟨t.host,t.vals,t.log,t.ref,t.rk,t.n3⟩ ⟨t.len,t.off⟩
noncomputable def bM:List MS:=[(.asg (.tup [(.loc 5),(.loc 6)]) (.meth (.new 3 [(.loc 1),(.loc 3)]) 108 [(.loc 0),(.loc 4)])),(.ife (.cmp .eq (.loc 5) (.glob (.int 0))) [(.ret (.tup [(.loc 4),(.attr (.loc 6) 2),(.call (.glob (.fn 57)) [(.attr (.loc 6) 3)])]))] []),(.ife (.cmp .eq (.loc 5) (.glob (.int 2))) [(.ret (.lit .none))] [])]
theorem mo_n {an x5 x6:Option V} {b:Nat} {H1 H2:Hp} (e1:callF (pgc own) (d+8) 48 [.loc H.length,.str s,.loc h] (H++[.inst 3 []])=some (.none,H1)) (hm:H1[H.length]? = some (matO s h q)) (e2:callF (pgc own) (d+8) 49 [.loc H.length,.loc o,.int b] H1=some (.tup [.int 1,.none],H2)) :
    exB (pgc own) (callF (pgc own) (d+8)) bM [some (.loc o),some (.str s),an,some (.loc h),some (.int b),x5,x6] H=some (.next,[some (.loc o),some (.str s),an,some (.loc h),some (.int b),some (.int 1),some .none],H2) :=
  s_seq (s_asg0 (r_meth (r_new (r_cons (r_loc rfl) (r_cons (r_loc rfl) r_nil)) rfl e1) (by solve_by_elim [app_new,set_at,set_off,app_in,ne_len,len_ne,Ne.symm]) rfl rfl (r_cons (r_loc rfl) (r_cons (r_loc rfl) r_nil)) e2) (t_tup0 (by rfl) (t_cons0 t_loc0 (t_cons0 t_loc0 t_nil0)))) (s_seq (s_if_f (r_cmp (r_loc rfl) r_glob (by rfl)) s_nil0) (s_seq (s_if_f (r_cmp (r_loc rfl) r_glob (by rfl)) s_nil0) s_nil0))
theorem mo_l {an x5 x6:Option V} {b:Nat} {H1 H2:Hp} (e1:callF (pgc own) (d+8) 48 [.loc H.length,.str s,.loc h] (H++[.inst 3 []])=some (.none,H1)) (hm:H1[H.length]? = some (matO s h q)) (e2:callF (pgc own) (d+8) 49 [.loc H.length,.loc o,.int b] H1=some (.tup [.int 2,.none],H2)) :
    exB (pgc own) (callF (pgc own) (d+8)) bM [some (.loc o),some (.str s),an,some (.loc h),some (.int b),x5,x6] H=some (.ret .none,[some (.loc o),some (.str s),an,some (.loc h),some (.int b),some (.int 2),some .none],H2) :=
  s_seq (s_asg0 (r_meth (r_new (r_cons (r_loc rfl) (r_cons (r_loc rfl) r_nil)) rfl e1) (by solve_by_elim [app_new,set_at,set_off,app_in,ne_len,len_ne,Ne.symm]) rfl rfl (r_cons (r_loc rfl) (r_cons (r_loc rfl) r_nil)) e2) (t_tup0 (by rfl) (t_cons0 t_loc0 (t_cons0 t_loc0 t_nil0)))) (s_seq (s_if_f (r_cmp (r_loc rfl) r_glob (by rfl)) s_nil0) (s_stop (s_if_t (r_cmp (r_loc rfl) r_glob (by rfl)) (s_stop (s_ret0 r_lit)))))
theorem mo_t {an x5 x6:Option V} {b a pc o2:Nat} {nm:Nm} {mk ca:V} {H1 H2:Hp} (hl:nm.length<1000000) (e1:callF (pgc own) (d+8) 48 [.loc H.length,.str s,.loc h] (H++[.inst 3 []])=some (.none,H1)) (hm:H1[H.length]? = some (matO s h q)) (e2:callF (pgc own) (d+8) 49 [.loc H.length,.loc o,.int b] H1=some (.tup [.int 0,.loc wl],H2)) (hw:H2[wl]? = some (wayO o2 pc a (nmR nm) mk ca)) :
    ∃ l,exB (pgc own) (callF (pgc own) (d+8)) bM [some (.loc o),some (.str s),an,some (.loc h),some (.int b),x5,x6] H=some (.ret (.tup [.int b,.int a,.loc H2.length]),l,H2++[.list (nmL nm.reverse)]) :=
  ⟨_,s_seq (s_asg0 (r_meth (r_new (r_cons (r_loc rfl) (r_cons (r_loc rfl) r_nil)) rfl e1) (by solve_by_elim [app_new,set_at,set_off,app_in,ne_len,len_ne,Ne.symm]) rfl rfl (r_cons (r_loc rfl) (r_cons (r_loc rfl) r_nil)) e2) (t_tup0 (by rfl) (t_cons0 t_loc0 (t_cons0 t_loc0 t_nil0)))) (s_stop (s_if_t (r_cmp (r_loc rfl) r_glob (by rfl)) (s_stop (s_ret0 (r_tup (r_cons (r_loc rfl) (r_cons (r_attr (r_loc rfl) (by exact g_inst (by solve_by_elim [app_new,set_at,set_off,app_in,ne_len,len_ne,Ne.symm]) rfl)) (r_cons (r_call r_glob (r_cons (r_attr (r_loc rfl) (by exact g_inst (by solve_by_elim [app_new,set_at,set_off,app_in,ne_len,len_ne,Ne.symm]) rfl)) r_nil) (rows_ok hl)) r_nil))))))))⟩
inductive Mo (kp:Nat→Option (List Nat)) (s:List Nat) (Os:List Od):Nat→Nat→Hs→Nat→Option (Nat×Nat×Nm)→Hs→Nat→Prop where
  | z {b σ k}:Mo kp s Os 0 b σ k none σ k
  | met {c b σ k w τ k'}:Rn kp s ⟨Os,0,b,[],[],[]⟩ [] σ k (.met w) τ k'→Mo kp s Os (c+1) b σ k (some (b,w.a,w.nm.reverse)) τ k'
  | lost {c b σ k τ k'}:Rn kp s ⟨Os,0,b,[],[],[]⟩ [] σ k .lost τ k'→Mo kp s Os (c+1) b σ k none τ k'
  | non {c b σ k τ k1 R υ k'}:Rn kp s ⟨Os,0,b,[],[],[]⟩ [] σ k .non τ k1→Mo kp s Os c (b+1) τ k1 R υ k'→Mo kp s Os (c+1) b σ k R υ k'
theorem Mo.mono {Os:List Od} {c b:Nat} {R:Option (Nat×Nat×Nm)} (T:Mo kp s Os c b σ k R τ k'):k≤k':=by
  induction T with
  | z=>exact Nat.le_refl _
  | met T=>exact Nat.le_of_succ_le T.mono
  | lost T=>exact Nat.le_of_succ_le T.mono
  | non T _ ih=>exact Nat.le_trans (Nat.le_of_succ_le T.mono) ih
theorem Rn.grow {w:CW} {L:List (Option CW)} {R:RRes} (hK:∀ q key,kp q=some key→key∈K) (T:Rn kp s w L σ k R τ k'):τ.log.length+k≤σ.log.length+k':=by
  induction T with
  | go e X T ih=>have:=(X.facts hK).g; exact Nat.not_lt.mp (lin [_,_,_,_,_] (.c 1 (.a (.v 0) (.a (.v 1) (.n 1))) (.a (.v 2) (.v 3)) (.c 1 (.v 2) (.a (.v 4) (.n 1)) (.c 1 (.a (.a (.v 4) (.v 3)) (.n 1)) (.a (.v 0) (.v 1)) .z))) rfl ih this)
  | pop e X T ih=>exact Nat.not_lt.mp (lin [_,_,_,_] (.c 1 (.a (.v 0) (.a (.v 1) (.n 1))) (.a (.v 2) (.v 3)) (.c 1 (.a (.a (.v 2) (.v 3)) (.n 1)) (.a (.v 0) (.v 1)) .z)) rfl ih)
  | _=>exact Nat.not_lt.mp (lin [_,_] (.c 1 (.a (.a (.v 0) (.a (.v 1) (.n 1))) (.n 1)) (.a (.v 0) (.v 1)) .z) rfl)
theorem Rn.kd {w:CW} {L:List (Option CW)} {R:RRes} (hK:∀ q key,kp q=some key→key∈K) (T:Rn kp s w L σ k R τ k'):Kd K σ.vals→Kd K τ.vals:=by
  induction T with
  | go e X T ih=>exact fun h=>ih ((X.facts hK).v h)
  | pop e X T ih=>exact ih
  | _=>exact id
theorem orders_loop (hC:∀ t H,CompE own d t H) (g:Rg kp K s m j) {Os:List Od} {c b:Nat} {R:Option (Nat×Nat×Nm)} (T:Mo kp s Os c b σ k R τ k'):∀ {f:Nat} {H:Hp} {an x y z:Option V},c<f→HX kp h va rf lg m k σ H→H[o]? = some (.list (Os.map oV))→o≠lg→(k':Int)≤m→σ.log.length≤j+k→Kd K σ.vals →
    PlE own d H.length (forN (.one 4) (fun l H=>exB (pgc own) (callF (pgc own) (d+8)) bM l H) f (.rng b 1 c) [some (.loc o),some (.str s),an,some (.loc h),x,y,z] H) H kp h va rf lg m k' τ R:=by
  have hm:=g.g.hm
  have start:∀ {b:Nat} {σ:Hs} {k k1:Nat} {R:RRes} {τ:Hs} {H:Hp},Rn kp s ⟨Os,0,b,[],[],[]⟩ [] σ k R τ k1→(k1:Int)≤m→HX kp h va rf lg m k σ H→H[o]? = some (.list (Os.map oV))→o≠lg→σ.log.length≤j+k→Kd K σ.vals →
      RunE own d kp H H.length o b (H.length+1) h va rf lg m τ k1 ((H++[O.inst 3 [(6,.str s),(7,.loc h)]]++[O.list []]).set H.length (matO s h (H.length+1))) R:=fun {b σ k k1 R τ H} T hk hx ho ol hl hv=>by
    have hl2:((H++[O.inst 3 [(6,.str s),(7,.loc h)]]++[O.list []]).set H.length (matO s h (H.length+1))).length=H.length+2:=by rw [List.length_set,List.length_append,List.length_append]; rfl
    have g0:∀ i x,H[i]? = some x→((H++[O.inst 3 [(6,.str s),(7,.loc h)]]++[O.list []]).set H.length (matO s h (H.length+1)))[i]? = some x:=fun i x hx=>set_off (len_ne hx) (app_in (app_in hx))
    have hq:((H++[O.inst 3 [(6,.str s),(7,.loc h)]]++[O.list []]).set H.length (matO s h (H.length+1)))[H.length+1]? = some (.list []):=by
      refine set_off (by exact Nat.ne_of_lt (Nat.not_le.mp (lin [_] (.c 1 (.a (.v 0) (.n 1)) (.v 0) .z) rfl))) ?_
      have:=app_new (H:=H++[O.inst 3 [(6,.str s),(7,.loc h)]]) (x:=O.list [])
      rw [List.length_append] at this; exact this
    have e1:=lt_get ho
    have e2:=lt_get hx.log
    have e3:=lt_get hx.ref
    exact run_fn hC g hk T ⟨g0 _ _ hx.host,g0 _ _ hx.vals,g0 _ _ hx.log,g0 _ _ hx.ref,fun r key e=>g0 _ _ (hx.rk r key e),hx.n3⟩ (set_at (app_in app_new)) hq (g0 _ _ ho) hl hv (by exact Nat.not_lt.mp (lin [_,_] (.c 1 (.a (.v 0) (.n 2)) (.v 1) (.c 1 (.a (.v 1) (.n 1)) (.v 0) .z)) rfl (Nat.le_of_eq (Eq.symm hl2)))) (fun i h1 _ _ _=>(List.getElem?_set_ne (Nat.ne_of_gt h1)).trans ((List.getElem?_append_left (by rw [List.length_append]; exact Nat.lt_succ_of_lt h1)).trans (List.getElem?_append_left h1))) (by exact Nat.ne_of_lt (Nat.not_le.mp (lin [_,_] (.c 1 (.a (.v 0) (.n 1)) (.v 1) (.c 1 (.a (.v 1) (.n 1)) (.v 0) .z)) rfl e1))) ol (by exact Nat.not_lt.mp (lin [_] (.c 1 (.a (.a (.v 0) (.n 1)) (.n 1)) (.v 0) .z) rfl)) (by exact Nat.ne_of_gt (Nat.not_le.mp (lin [_,_] (.c 1 (.a (.v 0) (.n 1)) (.v 1) (.c 1 (.a (.v 1) (.n 1)) (.v 0) .z)) rfl e2))) (by exact Nat.ne_of_gt (Nat.not_le.mp (lin [_,_] (.c 1 (.a (.v 0) (.n 1)) (.v 1) (.c 1 (.a (.v 1) (.n 1)) (.v 0) .z)) rfl e3)))
  have mt:∀ {H:Hp},((H++[O.inst 3 [(6,.str s),(7,.loc h)]]++[O.list []]).set H.length (matO s h (H.length+1)))[H.length]? = some (matO s h (H.length+1)):=set_at (app_in app_new)
  induction T with
  | z =>
    intro f H an x y z hf hx ho ol hk hl hv
    obtain⟨f,rfl⟩:∃ g,f=g+1:=Nat.exists_eq_add_one.mpr hf
    exact .nxt _ H (fn_end rfl) hx (.refl H) rfl
  | met T =>
    intro f H an x y z hf hx ho ol hk hl hv
    obtain⟨f,rfl⟩:∃ g,f=g+1:=Nat.exists_eq_add_one.mpr (Nat.lt_of_le_of_lt (Nat.zero_le _) hf)
    have r:=start T hk hx ho ol hl hv
    cases r with
    | met w wl H' e x' o' hw hn =>
      obtain⟨o2,ca,hw0,_,_,_,_⟩:=hw
      obtain⟨l,e4⟩:=mo_t (own:=own) (d:=d) (an:=an) (x5:=y) (x6:=z) (by omega) mat_init mt e hw0
      exact .ret _ l _ (fn_ret rfl rfl e4) (x'.app _) (o'.trans (.app _)) ⟨_,rfl,app_new,o'.len⟩
  | lost T =>
    intro f H an x y z hf hx ho ol hk hl hv
    obtain⟨f,rfl⟩:∃ g,f=g+1:=Nat.exists_eq_add_one.mpr (Nat.lt_of_le_of_lt (Nat.zero_le _) hf)
    have r:=start T hk hx ho ol hl hv
    cases r with
    | lost H' e x' o'=>exact .ret _ _ _ (fn_ret rfl rfl (mo_l mat_init mt e)) x' o' rfl
  | @non c b σ k τ k1 R υ k' T M ih =>
    intro f H an x y z hf hx ho ol hk hl hv
    obtain⟨f,rfl⟩:∃ g,f=g+1:=Nat.exists_eq_add_one.mpr (Nat.lt_of_le_of_lt (Nat.zero_le _) hf)
    have hmo:=M.mono
    have hg:=T.grow g.g.hK
    have r:=start T (by omega) hx ho ol hl hv
    cases r with
    | non H' e x' o' =>
      have hq:=ih (f:=f) (an:=an) (x:=some (.int b)) (y:=some (.int 1)) (z:=some .none) (Nat.lt_of_succ_lt_succ hf) x' ((o'.off o (lt_get ho) (ob_ne ho hx.host (fun e=>by cases e)) (ob_ne ho hx.vals (fun e=>by cases e)) ol).trans ho) ol hk (by exact Nat.not_lt.mp (lin [_,_,_,_,_] (.c 1 (.v 0) (.a (.v 1) (.v 2)) (.c 1 (.a (.v 3) (.v 2)) (.a (.v 0) (.v 4)) (.c 1 (.a (.a (.v 1) (.v 4)) (.n 1)) (.v 3) .z))) rfl hl hg)) (T.kd g.g.hK hv)
      have hs:forN (.one 4) (fun l H=>exB (pgc own) (callF (pgc own) (d+8)) bM l H) (f+1) (.rng b 1 (c+1)) [some (.loc o),some (.str s),an,some (.loc h),x,y,z] H=_:=fn_next rfl rfl (mo_n mat_init mt e) rfl
      rw [hs]
      cases hq with
      | ret v l H' e x o r=>exact .ret v l H' e x (o'.trans o) (r.mono o'.len)
      | nxt l H' e x o r=>exact .nxt l H' e x (o'.trans o) r
theorem orders_ok (hC:∀ t H,CompE own d t H) (g:Rg kp K s m j) {Os:List Od} {an:Bool} {R:Option (Nat×Nat×Nm)} (x:HX kp h va rf lg m k σ H) (ho:H[o]? = some (.list (Os.map oV))) (ol:o≠lg) (T:Mo kp s Os (cnt an s) 0 σ k R τ k') (hk:(k':Int)≤m) (hl:σ.log.length≤j+k) (hv:Kd K σ.vals) :
    Ca (pgc own) (d+9) 58 [.loc o,.str s,.bool an,.loc h] H kp h va rf lg m k' τ (fun H' v=>R3 H.length H' R v):=by
  have hc:=cnt_le an g.g
  have q:=orders_loop (own:=own) (d:=d) hC g T (f:=1048576) (an:=some (.bool an)) (x:=none) (y:=none) (z:=none) (by exact Nat.not_le.mp (lin [_] (.c 1 (.v 0) (.n 1000) (.c 1 (.n 1048576) (.v 0) .z)) rfl hc)) x ho ol hk hl hv
  have e0:∀ {q:SR},forN (.one 4) (fun l H=>exB (pgc own) (callF (pgc own) (d+8)) bM l H) 1048576 (.rng (0:Nat) 1 (cnt an s)) [some (.loc o),some (.str s),some (.bool an),some (.loc h),none,none,none] H=q→exS (pgc own) (callF (pgc own) (d+8)) (.for (.one 4) (.prim .range [.ife (.loc 2) (.lit (.int 1)) (.bin .add (.prim .len [.loc 1]) (.lit (.int 1)))]) bM) [some (.loc o),some (.str s),some (.bool an),some (.loc h),none,none,none] H=q:=fun {q} hq =>
    s_for0 (r_prim (r_cons (cnt_ok rfl rfl) r_nil) (p_range1 (by omega))) (i_rng (by decide) (by omega) (.inl rfl)) (by rw [rng_nat]; exact hq)
  cases q with
  | ret v l H' e x o r=>exact⟨v,H',call_ret rfl rfl (s_stop (e0 e)),x,o,r⟩
  | nxt l H' e x o r=>subst r; exact⟨.none,H',call_ret rfl rfl (s_seq (e0 e) (s_stop (s_ret0 r_lit))),x,o,rfl⟩
end
namespace L1
section
variable {d:Nat} {H:Hp} {cells:List V} {ns:List Int}
noncomputable abbrev P1:Pg:=pgc Mine.L1.fnsL
structure Fd (cells:List V) (t:Nat) (H:Hp):Prop where
  h0:H[0]? = some (.list cells)
  h1:H[1]? = some (.list [.loc 0,.int t])
theorem next_ok_k {t:Nat} {m:Int} (f:Fd cells t H) (hc:cells=ns.map .int) (ht:t<1000) (hm:0<m) {zg:Prop} (zk:∀ r,(0≤r)→(r<m)→(callF P1 (d+1) 72 [.loc 1,.int m] H=some (.int r,H.set 1 (.list [.loc 0,.int (t+1:Nat)])))→zg):zg:=by
  have h0:=f.h0
  have h1:=f.h1
  have g0:(H.set 1 (.list [.loc 0,.int (t+1:Nat)]))[0]? = some (.list cells):=set_off (by decide) h0
  have hcl:cells.length=ns.length:=by rw [hc,List.length_map]
  by_cases hlt:t<ns.length
  · have hn:ns[t]? = some ns[t]:=List.getElem?_eq_getElem hlt
    have hcn:idxL cells t=some (.int ns[t]):=g_idx0 rfl (by rw [hc,List.getElem?_map,hn]; rfl)
    exact zk ((ns[t].natAbs:Int) % m) (Int.emod_nonneg _ (Int.ne_of_gt hm)) (Int.emod_lt_of_pos _ hm) (call_ret rfl rfl (s_seq (s_asg0 (r_loc rfl) (t_tup0 (g_unpk h1) (t_cons0 t_loc0 (t_cons0 t_loc0 t_nil0)))) (s_seq (s_asg0 (r_bin (r_loc rfl) r_lit (by rfl)) (t_idx0 (r_loc rfl) r_lit (g_setI h1 ⟨by decide,Nat.le_refl 2⟩))) (s_stop (s_if_t (r_cmp (r_loc rfl) (r_prim (r_cons (r_loc rfl) r_nil) (g_len g0)) (c_lt_t (Int.ofNat_lt.mpr (hcl.symm▸hlt)))) (s_stop (s_ret0 (r_bin (r_prim (r_cons (r_prim (r_cons (r_idx (r_loc rfl) (r_loc rfl) (g_idxL g0 hcn)) r_nil) (by rfl)) r_nil) (by rfl)) (r_loc rfl) (by exact gd_at hm)))))))))
  · have b1:(t:Int).natAbs<1152921504606846976:=Nat.lt_trans ht (by decide)
    exact zk ((7 * (t:Int)+(t:Int) / 2+9+cells.length) % m) (Int.emod_nonneg _ (Int.ne_of_gt hm)) (Int.emod_lt_of_pos _ hm) (call_ret rfl rfl (s_seq (s_asg0 (r_loc rfl) (t_tup0 (g_unpk h1) (t_cons0 t_loc0 (t_cons0 t_loc0 t_nil0)))) (s_seq (s_asg0 (r_bin (r_loc rfl) r_lit (by rfl)) (t_idx0 (r_loc rfl) r_lit (g_setI h1 ⟨by decide,Nat.le_refl 2⟩))) (s_seq (s_if_f (r_cmp (r_loc rfl) (r_prim (r_cons (r_loc rfl) r_nil) (g_len g0)) (c_lt_f (fun h=>hlt (hcl▸Int.ofNat_lt.mp h)))) s_nil0) (s_stop (s_ret0 (r_bin (r_bin (r_bin (r_bin (r_bin r_lit (r_loc rfl) (gd_at ⟨by decide,b1⟩)) (r_bin (r_loc rfl) r_lit (gd_at ⟨by decide,b1,by decide⟩)) (by rfl)) r_lit (by rfl)) (r_prim (r_cons (r_loc rfl) r_nil) (g_len g0)) (by rfl)) (r_loc rfl) (by exact gd_at hm))))))))
theorem lt_lim {n:Nat} (h:n<100000):n<lim:=Nat.lt_trans h (by decide)
theorem Fd.step {t:Nat} (f:Fd cells t H):Fd cells (t+1) (H.set 1 (.list [.loc 0,.int (t+1:Nat)])):=⟨set_off (by decide) f.h0,set_at f.h1⟩
theorem Fd.app {t:Nat} (f:Fd cells t H) (x:Hp):Fd cells t (H++x):=⟨app_in f.h0,app_in f.h1⟩
theorem strs_one:∀ cs:List Nat,strsOf (cs.map fun c=>V.str [c])=some (cs.map fun c=>[c])
  | []=>rfl
  | c::r=>by rw [List.map_cons,strsOf_2,strs_one r]; rfl
theorem cat_one:∀ cs:List Nat,catL (cs.map fun c=>[c])=cs
  | []=>rfl
  | c::r=>congrArg (c::·) (cat_one r)
theorem sl_to {s:List Nat} {i:Int} (h:0≤i):sliceV (.str s) .none (.int i) .none H=some (.str (s.take i.toNat),H):=by
  show Option.map _ (gd (0≤i) _)=_; rw [gd_at h]; rfl
theorem sl_from {s:List Nat} {i:Int} (h:0≤i):sliceV (.str s) (.int (i+1)) .none .none H=some (.str (s.drop (i+1).toNat),H):=by
  show Option.map _ (gd (0≤i+1) _)=_; rw [gd_at (Int.add_nonneg h (by decide))]; rfl
theorem sne {s:List Nat} {q:Bool} (h:(!(s == []))=q):cmpV H .ne (.str s) (.str [])=some q:=by show some _=_; rw [h]
theorem ab_at {r:Int} (h0:0≤r) (h1:r<2) {zg:Prop} (zk:∀ c:Nat,(∀ H,idxV H (.str [97,98]) (.int r)=some (.str [c]))→zg):zg:=by
  have:r=0∨r=1:=by omega
  rcases this with rfl | rfl
  · exact zk 97 fun _=>rfl
  · exact zk 98 fun _=>rfl
noncomputable abbrev elS:ME:=.idx (.lit (.str [97,98])) (.call (.glob (.fn 72)) [.loc 0,.lit (.int 2)])
theorem word_loop {l:Lo} (hc:cells=ns.map .int) (h1:∀ v,(l.set 6 v)[0]? = some (some (.loc 1))):∀(k n:Nat) (x:Int) (t:Nat) (acc:List V) (H:Hp),k<n→Fd cells t H→t+k<1000 →
    ∃(cs:List Nat) (H':Hp),cs.length=k∧compN (fun l H=>evC P1 (callF P1 (d+1)) [] l H) (fun l H=>evE P1 (callF P1 (d+1)) elS l H) (.one 6) l n (.rng x 1 k) acc H=some (acc.reverse++cs.map (fun c=>.str [c]),H')∧Fd cells (t+k) H'∧H'.length=H.length
  | 0,n+1,x,t,acc,H,_,f,_=>⟨[],H,rfl,(cn_end rfl).trans (by rw [List.map_nil,List.append_nil]),f,rfl⟩
  | k+1,n+1,x,t,acc,H,hn,f,ht=>by
    refine next_ok_k (d:=d) (m:=2) f hc (Nat.lt_of_le_of_lt (Nat.le_add_right _ _) ht) (by decide) fun a a1 a2 ea=>?_
    refine ab_at a1 a2 fun c hx=>?_
    obtain⟨cs,H',hcs,e,f',g⟩:=word_loop hc h1 k n (x+1) (t+1) (.str [c]::acc) _ (Nat.lt_of_succ_lt_succ hn) f.step (by rw [Nat.add_assoc,Nat.add_comm 1]; exact ht)
    refine⟨c::cs,H',by rw [List.length_cons,hcs],(cn_step rfl rfl rc_t (r_idx r_lit (r_call r_glob (r_cons (r_loc (h1 _)) (r_cons r_lit r_nil)) ea) (hx _)) e).trans ?_,by rw [Nat.add_assoc,Nat.add_comm 1] at f'; exact f',g.trans List.length_set⟩
    rw [List.reverse_cons,List.append_assoc]; rfl
theorem repL_len (s:List Nat):∀ k,(repL s k).length=k * s.length
  | 0=>(Nat.zero_mul _).symm
  | k+1=>by show(s++repL s k).length=_; rw [List.length_append,repL_len s k,Nat.succ_mul,Nat.add_comm]
inductive Sb (cells:List V) (d:Nat) (H:Hp):Prop where
  | one (n:Nat) (t:Nat) (H':Hp) (hn:n≤16) (e:callF P1 (d+2) 73 [.loc 1] H=some (.tup [.str (repL [49] n),.bool true],H')) (f:Fd cells t H') (l:H'.length=H.length):Sb cells d H
  | two (s:List Nat) (t:Nat) (H':Hp) (hn:s.length≤16) (e:callF P1 (d+2) 73 [.loc 1] H=some (.tup [.str s,.bool false],H')) (f:Fd cells t H') (l:H'.length=H.length+1):Sb cells d H
theorem subject_ok (hc:cells=ns.map .int) (f:Fd cells 0 H):Sb cells d H:=by
  refine next_ok_k (d:=d) (m:=3) f hc (by decide) (by decide) fun form f0 f1 e1=>?_
  refine next_ok_k (d:=d) (m:=17) f.step hc (by decide) (by decide) fun z z0 z1 e2=>?_
  by_cases hf:form=0
  · subst hf
    exact .one z.toNat 2 _ (by omega) (call_ret rfl rfl (s_seq (s_asg0 (r_tup (r_cons (r_call r_glob (r_cons (r_loc rfl) (r_cons r_lit r_nil)) e1) (r_cons (r_call r_glob (r_cons (r_loc rfl) (r_cons r_lit r_nil)) e2) r_nil))) (t_tup0 (by rfl) (t_cons0 t_loc0 (t_cons0 t_loc0 t_nil0)))) (s_stop (s_if_t (r_cmp (r_loc rfl) r_lit (by rfl)) (s_stop (s_ret0 (r_tup (r_cons (r_bin r_lit (r_loc rfl) (by exact gd_at ⟨z0,by decide,by omega⟩)) (r_cons r_lit r_nil))))))))) f.step.step (by rw [List.length_set,List.length_set])
  · refine next_ok_k (d:=d) (m:=4) f.step.step hc (by decide) (by decide) fun k k0 k1 e3=>?_
    obtain⟨cs,H2,hcs,ec,f2,g2⟩:=word_loop (d:=d) (l:=[some (.loc 1),some (.int form),some (.int z),none,none,none]++List.replicate 1 none) hc (fun v=>rfl) (1+k).toNat 1048576 0 3 [] _ (by omega) f.step.step.step (by omega)
    have hcomp:=(rng_up (p:=0) (q:=1+k) (m:=(1+k).toNat) (by omega)).symm▸ec
    have hjn:=g_join (H:=H2++[O.list (cs.map fun c=>.str [c])]) app_new (strs_one cs) (by rw [cat_one]; exact Nat.le_of_lt (lt_lim (by omega)))
    rw [cat_one] at hjn
    have f3:=f2.app [O.list (cs.map fun c=>.str [c])]
    have l3:(H2++[O.list (cs.map fun c=>.str [c])]).length=H.length+1:=by rw [List.length_append,g2,List.length_set,List.length_set,List.length_set]; rfl
    generalize hG3:H2++[O.list (cs.map fun c=>.str [c])] = G3 at hjn f3 l3
    have c1:1≤cs.length:=by omega
    have c4:cs.length≤4:=by omega
    have q0:(0:Int)<(cs.length:Nat):=by omega
    have w1:z / (cs.length:Nat) * (cs.length:Nat)≤z:=Int.ediv_mul_le z (by omega)
    have w2:0≤z / (cs.length:Nat):=Int.ediv_nonneg z0 (by omega)
    have w3:z / (cs.length:Nat)≤z:=Int.ediv_le_self _ z0
    have hw0:0≤z / (cs.length:Nat) * (cs.length:Nat):=Int.mul_nonneg w2 (by omega)
    generalize hF:(repL cs z.toNat).take (z / (cs.length:Nat) * (cs.length:Nat)).toNat=F
    have lF:F.length≤16:=by rw [← hF]; exact Nat.le_trans (List.length_take_le _ _) (by omega)
    subst hG3
    by_cases hf2:form=2
    · cases hw1:!(F == []) with
      | false =>
        exact .two F _ _ lF (by subst hF; exact call_ret rfl rfl (s_seq (s_asg0 (r_tup (r_cons (r_call r_glob (r_cons (r_loc rfl) (r_cons r_lit r_nil)) e1) (r_cons (r_call r_glob (r_cons (r_loc rfl) (r_cons r_lit r_nil)) e2) r_nil))) (t_tup0 (by rfl) (t_cons0 t_loc0 (t_cons0 t_loc0 t_nil0)))) (s_seq (s_if_f (r_cmp (r_loc rfl) r_lit (c_eq_f hf)) s_nil0) (s_seq (s_asg0 (r_bm r_lit (by rfl) (r_cons (r_comp (r_prim (r_cons (r_bin r_lit (r_call r_glob (r_cons (r_loc rfl) (r_cons r_lit r_nil)) e3) (by rfl)) r_nil) (p_range1 (by omega))) (i_rng (by decide) (by omega) (.inl rfl)) hcomp (by rw [List.reverse_nil,List.nil_append,List.length_map]; exact Nat.le_of_lt (lt_lim (by exact Nat.not_le.mp (lin [_] (.c 1 (.v 0) (.n 4) (.c 1 (.n 100000) (.v 0) .z)) rfl c4))))) r_nil) (by exact hjn)) t_loc0) (s_seq (s_asg0 (r_slice (r_bin (r_loc rfl) (r_loc rfl) (by exact gd_at ⟨z0,by exact Nat.not_lt.mp (lin [_] (.c 1 (.v 0) (.n 4) (.c 1 (.a (.n 1024) (.n 1)) (.v 0) .z)) rfl c4),by omega⟩)) r_lit (r_bin (r_bin (r_loc rfl) (r_prim (r_cons (r_loc rfl) r_nil) (by rfl)) (by exact gd_at ⟨by omega,by omega,by omega⟩)) (r_prim (r_cons (r_loc rfl) r_nil) (by rfl)) (by exact gd_at ⟨by omega,by omega⟩)) r_lit (by exact sl_to hw0)) t_loc0) (s_seq (s_if_f (r_and (r_cmp (r_loc rfl) r_lit (c_eq_t hf2)) (r_and_f (r_cmp (r_loc rfl) r_lit (by exact sne hw1)))) s_nil0) (s_stop (s_ret0 (r_tup (r_cons (r_loc rfl) (r_cons r_lit r_nil))))))))))) f3 l3
      | true =>
        have lp:0<F.length:=by cases F with
          | nil=>cases hw1
          | cons _ _=>exact Nat.succ_pos _
        refine next_ok_k (d:=d) (m:=(F.length:Nat)) f3 hc (by omega) (by omega) fun p p0 p1 e5=>?_
        refine next_ok_k (d:=d) (m:=2) f3.step hc (by omega) (by decide) fun b b0 b1 e6=>?_
        refine ab_at b0 b1 fun c hx=>?_
        have hb1:(F.take p.toNat).length + [c].length≤lim:=Nat.le_of_lt (lt_lim (by rw [List.length_take]; show _+1<_; omega))
        have hb2:(F.take p.toNat++[c]).length+(F.drop (p+1).toNat).length≤lim:=Nat.le_of_lt (lt_lim (by rw [List.length_append,List.length_take,List.length_drop]; show _+1+_<_; omega))
        exact .two (F.take p.toNat++[c]++F.drop (p+1).toNat) _ _ (by rw [List.length_append,List.length_append,List.length_take,List.length_drop]; show _+1+_≤_; omega) (by subst hF; exact call_ret rfl rfl (s_seq (s_asg0 (r_tup (r_cons (r_call r_glob (r_cons (r_loc rfl) (r_cons r_lit r_nil)) e1) (r_cons (r_call r_glob (r_cons (r_loc rfl) (r_cons r_lit r_nil)) e2) r_nil))) (t_tup0 (by rfl) (t_cons0 t_loc0 (t_cons0 t_loc0 t_nil0)))) (s_seq (s_if_f (r_cmp (r_loc rfl) r_lit (c_eq_f hf)) s_nil0) (s_seq (s_asg0 (r_bm r_lit (by rfl) (r_cons (r_comp (r_prim (r_cons (r_bin r_lit (r_call r_glob (r_cons (r_loc rfl) (r_cons r_lit r_nil)) e3) (by rfl)) r_nil) (p_range1 (by omega))) (i_rng (by decide) (by omega) (.inl rfl)) hcomp (by rw [List.reverse_nil,List.nil_append,List.length_map]; exact Nat.le_of_lt (lt_lim (by exact Nat.not_le.mp (lin [_] (.c 1 (.v 0) (.n 4) (.c 1 (.n 100000) (.v 0) .z)) rfl c4))))) r_nil) (by exact hjn)) t_loc0) (s_seq (s_asg0 (r_slice (r_bin (r_loc rfl) (r_loc rfl) (by exact gd_at ⟨z0,by exact Nat.not_lt.mp (lin [_] (.c 1 (.v 0) (.n 4) (.c 1 (.a (.n 1024) (.n 1)) (.v 0) .z)) rfl c4),by omega⟩)) r_lit (r_bin (r_bin (r_loc rfl) (r_prim (r_cons (r_loc rfl) r_nil) (by rfl)) (by exact gd_at ⟨by omega,by omega,by omega⟩)) (r_prim (r_cons (r_loc rfl) r_nil) (by rfl)) (by exact gd_at ⟨by omega,by omega⟩)) r_lit (by exact sl_to hw0)) t_loc0) (s_seq (s_if_t (r_and (r_cmp (r_loc rfl) r_lit (c_eq_t hf2)) (r_and (r_cmp (r_loc rfl) r_lit (by exact sne hw1)) r_and0)) (s_seq (s_asg0 (r_call r_glob (r_cons (r_loc rfl) (r_cons (r_prim (r_cons (r_loc rfl) r_nil) (by rfl)) r_nil)) e5) t_loc0) (s_seq (s_asg0 (r_bin (r_bin (r_slice (r_loc rfl) r_lit (r_loc rfl) r_lit (by exact sl_to p0)) (r_idx r_lit (r_call r_glob (r_cons (r_loc rfl) (r_cons r_lit r_nil)) e6) (hx _)) (by exact gd_at hb1)) (r_slice (r_loc rfl) (r_bin (r_loc rfl) r_lit (by rfl)) r_lit r_lit (by exact sl_from p0)) (by exact gd_at hb2)) t_loc0) s_nil0))) (s_stop (s_ret0 (r_tup (r_cons (r_loc rfl) (r_cons r_lit r_nil))))))))))) f3.step.step (by rw [List.length_set,List.length_set]; exact l3)
    · exact .two F _ _ lF (by subst hF; exact call_ret rfl rfl (s_seq (s_asg0 (r_tup (r_cons (r_call r_glob (r_cons (r_loc rfl) (r_cons r_lit r_nil)) e1) (r_cons (r_call r_glob (r_cons (r_loc rfl) (r_cons r_lit r_nil)) e2) r_nil))) (t_tup0 (by rfl) (t_cons0 t_loc0 (t_cons0 t_loc0 t_nil0)))) (s_seq (s_if_f (r_cmp (r_loc rfl) r_lit (c_eq_f hf)) s_nil0) (s_seq (s_asg0 (r_bm r_lit (by rfl) (r_cons (r_comp (r_prim (r_cons (r_bin r_lit (r_call r_glob (r_cons (r_loc rfl) (r_cons r_lit r_nil)) e3) (by rfl)) r_nil) (p_range1 (by omega))) (i_rng (by decide) (by omega) (.inl rfl)) hcomp (by rw [List.reverse_nil,List.nil_append,List.length_map]; exact Nat.le_of_lt (lt_lim (by exact Nat.not_le.mp (lin [_] (.c 1 (.v 0) (.n 4) (.c 1 (.n 100000) (.v 0) .z)) rfl c4))))) r_nil) (by exact hjn)) t_loc0) (s_seq (s_asg0 (r_slice (r_bin (r_loc rfl) (r_loc rfl) (by exact gd_at ⟨z0,by exact Nat.not_lt.mp (lin [_] (.c 1 (.v 0) (.n 4) (.c 1 (.a (.n 1024) (.n 1)) (.v 0) .z)) rfl c4),by omega⟩)) r_lit (r_bin (r_bin (r_loc rfl) (r_prim (r_cons (r_loc rfl) r_nil) (by rfl)) (by exact gd_at ⟨by omega,by omega,by omega⟩)) (r_prim (r_cons (r_loc rfl) r_nil) (by rfl)) (by exact gd_at ⟨by omega,by omega⟩)) r_lit (by exact sl_to hw0)) t_loc0) (s_seq (s_if_f (r_and_f (r_cmp (r_loc rfl) r_lit (c_eq_f hf2))) s_nil0) (s_stop (s_ret0 (r_tup (r_cons (r_loc rfl) (r_cons r_lit r_nil))))))))))) f3 l3
end
end L1
namespace L1
section
variable {d:Nat} {H:Hp} {s:List Nat}
noncomputable def firstF (p:Nat→Bool):Nat→Nat→Option Nat
  | 0,_=>none
  | c+1,k=>bif p k then some k else firstF p c (k+1)
noncomputable def hit (s:List Nat) (k:Nat):Bool:=decide (s.length % k=0) && s == repL (s.take k) (s.length / k)
noncomputable def dvd (n k:Nat):Bool:=decide (n % k=0)
noncomputable def bS:List MS:=[(.ife (.and [(.cmp .eq (.bin .mod (.loc 1) (.loc 2)) (.lit (.int 0))),(.cmp .eq (.loc 0) (.bin .mul (.slice (.loc 0) (.lit .none) (.loc 2) (.lit .none)) (.bin .fdiv (.loc 1) (.loc 2))))]) [(.ret (.slice (.loc 0) (.lit .none) (.loc 2) (.lit .none)))] [])]
noncomputable def bP:List MS:=[(.ife (.cmp .eq (.bin .mod (.loc 0) (.loc 1)) (.lit (.int 0))) [(.ret (.loc 1))] [])]
theorem rng_cnt {p q:Int}:rngLen p q 1=(q - p).toNat:=by
  show(if(0:Int)<1 then(if p<q then((q - p+1 - 1) / 1).toNat else 0) else _)=_
  rw [if_pos (by decide),Int.ediv_one,Int.add_sub_cancel]
  by_cases h:p<q
  · rw [if_pos h]
  · rw [if_neg h,Int.toNat_of_nonpos (by omega)]
noncomputable def flS (s:List Nat):Option Nat→Fl
  | none=>.next
  | some e=>.ret (.str (s.take e))
noncomputable def flP:Option Nat→Fl
  | none=>.next
  | some e=>.ret (.int (e:Nat))
theorem s_loop (hs:s.length≤16):∀(c k n:Nat) (x:Option V),c<n→2≤k→k+c≤1000→∃ y,forN (.one 2) (fun l H=>exB P1 (callF P1 d) bS l H) n (.rng k 1 c) [some (.str s),some (.int (s.length:Nat)),x] H=some (flS s (firstF (hit s) c k),[some (.str s),some (.int (s.length:Nat)),y],H)
  | 0,k,n+1,x,_,_,_=>⟨x,fn_end rfl⟩
  | c+1,k,n+1,x,hn,hk,hc=>by
    have hm:(0:Int)≤(s.length:Nat) / (k:Nat)∧(s.take (k:Int).toNat).length≤1024∧((s.length:Nat):Int) / (k:Nat)≤1024:=by
      have:=List.length_take_le k s
      have h3:((s.length:Nat):Int) / (k:Nat)≤(s.length:Nat):=Int.ediv_le_self _ (Int.natCast_nonneg _)
      exact⟨Int.ediv_nonneg (Int.natCast_nonneg _) (Int.natCast_nonneg _),by rw [List.length_take]; omega,by omega⟩
    have e3:firstF (hit s) (c+1) k=bif hit s k then some k else firstF (hit s) c (k+1):=rfl
    have hd:decide (((s.length:Nat):Int) % (k:Nat)=0)=decide (s.length % k=0):=decide_eq_decide.mpr (by omega)
    rw [e3]
    have nx:∀ {y:Option V},exB P1 (callF P1 d) bS [some (.str s),some (.int (s.length:Nat)),some (.int (k:Nat))] H=some (.next,[some (.str s),some (.int (s.length:Nat)),some (.int (k:Nat))],H)→∃ y,forN (.one 2) (fun l H=>exB P1 (callF P1 d) bS l H) (n+1) (.rng k 1 (c+1)) [some (.str s),some (.int (s.length:Nat)),x] H=some (flS s (firstF (hit s) c (k+1)),[some (.str s),some (.int (s.length:Nat)),y],H):=fun {_} e=>by
      obtain⟨y,h⟩:=s_loop hs c (k+1) n (some (.int (k:Nat))) (Nat.lt_of_succ_lt_succ hn) (Nat.le_succ_of_le hk) (by exact Nat.not_lt.mp (lin [_,_] (.c 1 (.a (.v 0) (.a (.v 1) (.n 1))) (.n 1000) (.c 1 (.a (.n 1000) (.n 1)) (.a (.a (.v 0) (.n 1)) (.v 1)) .z)) rfl hc))
      exact⟨y,fn_next rfl rfl e h⟩
    unfold hit
    cases h0:decide (s.length % k=0) with
    | false =>
      have h1:=hd.trans h0
      exact nx (y:=none) ((s_seq (s_if_f (r_and_f (r_cmp (r_bin (r_loc rfl) (r_loc rfl) (by exact gd_at (by omega))) r_lit (c_eqI h1))) s_nil0) s_nil0))
    | true =>
      have h1:=hd.trans h0
      cases h2:s == repL (s.take (k:Int).toNat) (((s.length:Nat):Int) / (k:Nat)).toNat with
      | false =>
        have h4:(s == repL (s.take k) (s.length / k))=false:=h2
        rw [h4]
        exact nx (y:=none) ((s_seq (s_if_f (r_and (r_cmp (r_bin (r_loc rfl) (r_loc rfl) (by exact gd_at (by omega))) r_lit (c_eqI h1)) (r_and_f (r_cmp (r_loc rfl) (r_bin (r_slice (r_loc rfl) r_lit (r_loc rfl) r_lit (by exact sl_to (Int.natCast_nonneg k))) (r_bin (r_loc rfl) (r_loc rfl) (by exact gd_at ⟨by omega,by omega,by omega⟩)) (by exact gd_at hm)) (c_seq h2)))) s_nil0) s_nil0))
      | true =>
        have h4:(s == repL (s.take k) (s.length / k))=true:=h2
        rw [h4]
        exact⟨_,fn_ret rfl rfl ((s_stop (s_if_t (r_and (r_cmp (r_bin (r_loc rfl) (r_loc rfl) (by exact gd_at (by omega))) r_lit (c_eqI h1)) (r_and (r_cmp (r_loc rfl) (r_bin (r_slice (r_loc rfl) r_lit (r_loc rfl) r_lit (by exact sl_to (Int.natCast_nonneg k))) (r_bin (r_loc rfl) (r_loc rfl) (by exact gd_at ⟨by omega,by omega,by omega⟩)) (by exact gd_at hm)) (c_seq h2)) r_and0)) (s_stop (s_ret0 (r_slice (r_loc rfl) r_lit (r_loc rfl) r_lit (by exact sl_to (Int.natCast_nonneg k))))))))⟩
noncomputable def shV (s:List Nat):V:=match firstF (hit s) (s.length / 2 - 1) 2 with
  | some e=>.str (s.take e)
  | none=>.none
theorem short_ok (hs:s.length≤16):callF P1 (d+1) 74 [.str s] H=some (shV s,H):=by
  obtain⟨y,h⟩:=s_loop (d:=d) (H:=H) hs (s.length / 2 - 1) 2 1048576 none (by omega) (Nat.le_refl _) (by omega)
  have hr:rngLen 2 (((s.length:Nat):Int) / 2+1) 1=s.length / 2 - 1:=rng_cnt.trans (by omega)
  have h':forN (.one 2) (fun l H=>exB P1 (callF P1 d) bS l H) 1048576 (.rng 2 1 (rngLen 2 (((s.length:Nat):Int) / 2+1) 1)) [some (.str s),some (.int (s.length:Nat)),none] H=some (flS s (firstF (hit s) (s.length / 2 - 1) 2),[some (.str s),some (.int (s.length:Nat)),y],H):=by rw [hr]; exact h
  unfold shV
  cases he:firstF (hit s) (s.length / 2 - 1) 2 with
  | none=>rw [he] at h'; exact call_ret rfl rfl (s_seq (s_asg0 (r_prim (r_cons (r_loc rfl) r_nil) (by rfl)) t_loc0) (s_seq (s_for0 (r_prim (r_cons r_lit (r_cons (r_bin (r_bin (r_loc rfl) r_lit (by exact gd_at ⟨by decide,by omega,by decide⟩)) r_lit (by rfl)) r_nil)) (p_range2 ⟨by decide,by omega⟩)) (i_rng (by decide) (by omega) (.inl rfl)) (h')) (s_stop (s_ret0 r_lit))))
  | some e=>rw [he] at h'; exact call_ret rfl rfl (s_seq (s_asg0 (r_prim (r_cons (r_loc rfl) r_nil) (by rfl)) t_loc0) (s_stop (s_for0 (r_prim (r_cons r_lit (r_cons (r_bin (r_bin (r_loc rfl) r_lit (by exact gd_at ⟨by decide,by omega,by decide⟩)) r_lit (by rfl)) r_nil)) (p_range2 ⟨by decide,by omega⟩)) (i_rng (by decide) (by omega) (.inl rfl)) (h'))))
theorem p_loop {m:Nat}:∀(c k n:Nat) (x:Option V),c<n→2≤k→∃ y,forN (.one 1) (fun l H=>exB P1 (callF P1 d) bP l H) n (.rng k 1 c) [some (.int (m:Nat)),x] H=some (flP (firstF (dvd m) c k),[some (.int (m:Nat)),y],H)
  | 0,k,n+1,x,_,_=>⟨x,fn_end rfl⟩
  | c+1,k,n+1,x,hn,hk=>by
    have e3:firstF (dvd m) (c+1) k=bif dvd m k then some k else firstF (dvd m) c (k+1):=rfl
    have hd:decide (((m:Nat):Int) % (k:Nat)=0)=dvd m k:=decide_eq_decide.mpr (by omega)
    rw [e3]
    cases h0:dvd m k with
    | false =>
      have h1:=hd.trans h0
      obtain⟨y,h⟩:=p_loop c (k+1) n (some (.int (k:Nat))) (Nat.lt_of_succ_lt_succ hn) (Nat.le_succ_of_le hk)
      exact⟨y,fn_next rfl rfl ((s_seq (s_if_f (r_cmp (r_bin (r_loc rfl) (r_loc rfl) (by exact gd_at (by omega))) r_lit (c_eqI h1)) s_nil0) s_nil0)) h⟩
    | true =>
      have h1:=hd.trans h0
      exact⟨_,fn_ret rfl rfl ((s_stop (s_if_t (r_cmp (r_bin (r_loc rfl) (r_loc rfl) (by exact gd_at (by omega))) r_lit (c_eqI h1)) (s_stop (s_ret0 (r_loc rfl))))))⟩
noncomputable def prV (m:Nat):V:=match firstF (dvd m) (m - 2) 2 with
  | some e=>.int (e:Nat)
  | none=>.none
theorem prime_ok {m:Nat} (hm:m≤16):callF P1 (d+1) 75 [.int (m:Nat)] H=some (prV m,H):=by
  obtain⟨y,h⟩:=p_loop (d:=d) (H:=H) (m:=m) (m - 2) 2 1048576 none (by omega) (Nat.le_refl _)
  have hr:rngLen 2 ((m:Nat):Int) 1=m - 2:=rng_cnt.trans (by omega)
  have h':forN (.one 1) (fun l H=>exB P1 (callF P1 d) bP l H) 1048576 (.rng 2 1 (rngLen 2 ((m:Nat):Int) 1)) [some (.int (m:Nat)),none] H=some (flP (firstF (dvd m) (m - 2) 2),[some (.int (m:Nat)),y],H):=by rw [hr]; exact h
  unfold prV
  cases he:firstF (dvd m) (m - 2) 2 with
  | none=>rw [he] at h'; exact call_ret rfl rfl (s_seq (s_for0 (r_prim (r_cons r_lit (r_cons (r_loc rfl) r_nil)) (p_range2 ⟨by decide,by omega⟩)) (i_rng (by decide) (by omega) (.inl rfl)) (h')) (s_stop (s_ret0 r_lit)))
  | some e=>rw [he] at h'; exact call_ret rfl rfl (s_stop (s_for0 (r_prim (r_cons r_lit (r_cons (r_loc rfl) r_nil)) (p_range2 ⟨by decide,by omega⟩)) (i_rng (by decide) (by omega) (.inl rfl)) (h')))
theorem strokes:∀ n:Fin 17,firstF (hit (repL [49] n)) ((repL [49] n).length / 2 - 1) 2=firstF (dvd n) (n - 2) 2:=by decide
end
end L1
namespace L1
noncomputable abbrev kW:List Nat:=[87]
noncomputable abbrev nW:Nd:=.dly kW
noncomputable abbrev nE:Nd:=.ca (.rp nW) (.sg (.rpos 0))
noncomputable abbrev nR:Nd:=.ca nW nE
noncomputable abbrev n1 (q:Nat):Nd:=.ca (.nw (.ca (.sg (.len 2)) .arb) q) nR
noncomputable def fin (s t:List Nat):Nat→Nat→Bool
  | 0,_=>false
  | f+1,p=>decide (s.length=p) || (metB s t p && fin s t f (p+t.length))
theorem fin_1 {s t:List Nat} {f p:Nat}:fin s t (f+1) p=(decide (s.length=p) || (metB s t p && fin s t f (p+t.length))):=rfl
noncomputable def good (s:List Nat) (e:Nat):Bool:=metB s (s.take e) e && fin s (s.take e) 17 (e+(s.take e).length)
theorem metB_le {s t:List Nat} {a:Nat} (h:metB s t a=true) (ht:0<t.length):a+t.length≤s.length:=by
  have h:=congrArg List.length (beq_iff_eq.mp h)
  rw [List.length_drop,List.length_take] at h
  omega
section
variable {kp:Nat→Option (List Nat)} {s t:List Nat} {σ τ:Hs} {k k' p e q:Nat} {R:Res}
noncomputable def FallT (kp:Nat→Option (List Nat)) (s:List Nat) (σ:Hs) (L:List (Option Wy)) (k:Nat) (R:Res) (τ:Hs) (k':Nat):Prop :=
  (L=[]∧R=.non∧τ=σ∧k'=k)∨∃ L' w,L=L'++[some w]∧Tr kp s w.c w.a w.nm σ L' k R τ k'
theorem Tr.no {i:Im} {r:List Im} {a:Nat} {nm:Nm} {L:List (Option Wy)} (X:AdvR kp s i r a nm σ .no) (F:FallT kp s σ L (k+1) R τ k'):Tr kp s (i::r) a nm σ L k R τ k':=by
  rcases F with⟨rfl,rfl,rfl,rfl⟩ | ⟨L',w,rfl,T⟩
  · exact .non X
  · exact .pop X T
theorem Tr.go0 {i:Im} {r c':List Im} {a a':Nat} {nm nm':Nm} {σ':Hs} {L:List (Option Wy)} (X:AdvR kp s i r a nm σ (.go c' a' nm' σ' [])) (T:Tr kp s c' a' nm' σ' L (k+1) R τ k'):Tr kp s (i::r) a nm σ L k R τ k' :=
  .go X (by rw [List.append_nil]; exact T)
theorem tx (hv:σ.vals=[(kW,.str t)]):TxV ((lookS kW σ.vals).getD (.str [])) t:=by rw [hv]; exact .str t
theorem ch_t (h:metB s t p=true):sgE s p (.ch t)=some (p+t.length):=by show oN (metB s t p) _=_; rw [h]; rfl
theorem ch_f (h:metB s t p=false):sgE s p (.ch t)=none:=by show oN (metB s t p) _=_; rw [h]; rfl
theorem rp_t (h:s.length=p):sgE s p (.rpos 0)=some p:=by show oN (decide (s.length=p+0)) p=_; rw [Nat.add_zero,decide_eq_true h]; rfl
theorem rp_f (h:s.length≠p):sgE s p (.rpos 0)=none:=by show oN (decide (s.length=p+0)) p=_; rw [Nat.add_zero,decide_eq_false h]; rfl
structure OutT (kp:Nat→Option (List Nat)) (s:List Nat) (c:List Im) (p:Nat) (σ:Hs) (L:List (Option Wy)) (k:Nat) (b:Bool) (m:Nat):Prop where
  met:b=true→∃ k',k'≤k+m∧Tr kp s c p [] σ L k (.met s.length []) σ k'
  non:b=false→∃ j,j≤m∧∀ R τ k',FallT kp s σ L (k+j) R τ k'→Tr kp s c p [] σ L k R τ k'
theorem rounds (hv:σ.vals=[(kW,.str t)]) (ht:0<t.length):∀(f p k:Nat) (L:List (Option Wy)),p≤s.length→s.length<p+f→OutT kp s [.nd (.rp nW),.nd (.sg (.rpos 0))] p σ L k (fin s t f p) (5 * f)
  | 0,p,k,L,h1,h2=>absurd h2 (Nat.not_lt.mpr h1)
  | f+1,p,k,L,h1,h2=>by
    rw [fin_1]
    by_cases hp:s.length=p
    · rw [decide_eq_true hp]
      exact⟨fun _=>⟨k+2,Nat.add_le_add_left (by exact Nat.not_lt.mp (lin [_] (.c 1 (.a (.m 5 (.a (.v 0) (.n 1))) (.n 1)) (.n 2) .z) rfl)) k,by
        have:=Tr.go (L:=L) (k:=k) (AdvR.rp (kp:=kp) (s:=s) (x:=nW) (r:=[.nd (.sg (.rpos 0))]) (a:=p) (nm:=[]) (σ:=σ)) (Tr.go0 (.sgt (rp_t hp)) .met)
        rw [hp]; exact this⟩,fun h=>nomatch h⟩
    · rw [decide_eq_false hp,Bool.false_or]
      have pre:∀ {R τ k'},Tr kp s [.nd (.sg (.ch t)),.er nW p,.nd (.sg (.rpos 0))] p [] σ L (k+3) R τ k'→Tr kp s [.nd (.rp nW),.nd (.sg (.rpos 0))] p [] σ L k R τ k':=fun T =>
        .go .rp (Tr.no (.sgf (rp_f hp)) (.inr ⟨_,_,rfl,Tr.go0 (.dly (tx hv)) T⟩))
      cases hm:metB s t p with
      | false =>
        exact⟨(fun h=>nomatch h),fun _=>⟨4,by exact Nat.not_lt.mp (lin [_] (.c 1 (.a (.m 5 (.a (.v 0) (.n 1))) (.n 1)) (.n 4) .z) rfl),fun R τ k' F=>pre (Tr.no (.sgf (ch_f hm)) F)⟩⟩
      | true =>
        rw [Bool.true_and]
        have hl:=metB_le hm ht
        have ih:=rounds hv ht f (p+t.length) (k+5) L hl (by exact Nat.not_le.mp (lin [_,_,_,_] (.c 1 (.a (.n 0) (.n 1)) (.v 0) (.c 1 (.a (.v 1) (.n 1)) (.a (.v 2) (.a (.v 3) (.n 1))) (.c 1 (.a (.a (.v 2) (.v 0)) (.v 3)) (.v 1) .z))) rfl ht h2))
        have pre2:∀ {R τ k'},Tr kp s [.nd (.rp nW),.nd (.sg (.rpos 0))] (p+t.length) [] σ L (k+5) R τ k'→Tr kp s [.nd (.rp nW),.nd (.sg (.rpos 0))] p [] σ L k R τ k':=fun T =>
          pre (Tr.go0 (.sgt (ch_t hm)) (Tr.go0 (.ert (by exact Nat.ne_of_lt (Nat.not_le.mp (lin [_,_] (.c 1 (.a (.n 0) (.n 1)) (.v 0) (.c 1 (.a (.v 1) (.v 0)) (.v 1) .z)) rfl ht)))) T))
        exact⟨fun h=>by
          obtain⟨k',h1,T⟩:=ih.met h
          exact⟨k',by exact Nat.not_lt.mp (lin [_,_,_] (.c 1 (.v 0) (.a (.a (.v 1) (.n 5)) (.m 5 (.v 2))) (.c 1 (.a (.a (.v 1) (.m 5 (.a (.v 2) (.n 1)))) (.n 1)) (.v 0) .z)) rfl h1),pre2 T⟩,fun h=>by
          obtain⟨j,h1,T⟩:=ih.non h
          exact⟨j+5,by exact Nat.not_lt.mp (lin [_,_] (.c 1 (.v 0) (.m 5 (.v 1)) (.c 1 (.a (.m 5 (.a (.v 1) (.n 1))) (.n 1)) (.a (.v 0) (.n 5)) .z)) rfl h1),fun R τ k' F=>pre2 (T R τ k' (by rw [show k+5+j=k+(j+5) by exact lnq [_,_] (.a (.a (.v 0) (.n 5)) (.v 1)) (.a (.v 0) (.a (.v 1) (.n 5))) rfl]; exact F))⟩⟩
noncomputable def altT (q e:Nat):Wy:=⟨[.nd .arb,.en q 0,.nd nR],e,[]⟩
inductive EndT (kp:Nat→Option (List Nat)) (s:List Nat) (c:List Im) (p:Nat) (σ:Hs) (k m:Nat):Option Nat→Prop where
  | met {e:Nat} {τ:Hs} {k':Nat} (hk:k'≤k+m) (hv:τ.vals=[(kW,.str (s.take e))]) (T:Tr kp s c p [] σ [] k (.met s.length []) τ k'):EndT kp s c p σ k m (some e)
  | non {τ:Hs} {k':Nat} (hk:k'≤k+m) (T:Tr kp s c p [] σ [] k .non τ k'):EndT kp s c p σ k m none
theorem EndT.pre {c c':List Im} {p' j m m':Nat} {σ':Hs} {x:Option Nat} (h:EndT kp s c' p' σ' (k+j) m x) (hm:j+m≤m') (f:∀ {R τ k'},Tr kp s c' p' [] σ' [] (k+j) R τ k'→Tr kp s c p [] σ [] k R τ k'):EndT kp s c p σ k m' x:=by
  cases h with
  | met hk hv T=>exact .met (by exact Nat.not_lt.mp (lin [_,_,_,_,_] (.c 1 (.a (.v 0) (.v 1)) (.v 2) (.c 1 (.v 3) (.a (.a (.v 4) (.v 0)) (.v 1)) (.c 1 (.a (.a (.v 4) (.v 2)) (.n 1)) (.v 3) .z))) rfl hm hk)) hv (f T)
  | non hk T=>exact .non (by exact Nat.not_lt.mp (lin [_,_,_,_,_] (.c 1 (.a (.v 0) (.v 1)) (.v 2) (.c 1 (.v 3) (.a (.a (.v 4) (.v 0)) (.v 1)) (.c 1 (.a (.a (.v 4) (.v 2)) (.n 1)) (.v 3) .z))) rfl hm hk)) (f T)
theorem put_W {v:V} (h:σ.vals=[]∨∃ u,σ.vals=[(kW,u)]):(asgn σ kW v).vals=[(kW,v)]:=by
  show putS kW v σ.vals=_
  rcases h with h | ⟨u,h⟩ <;> rw [h] <;> rfl
theorem ends (hq:kp q=some kW) (hn:s.length≤16):∀(c e k:Nat) (σ:Hs),2≤e→e+c=s.length+1→0<c→(σ.vals=[]∨∃ u,σ.vals=[(kW,u)])→EndT kp s (altT q e).c e σ k (92 * c) (firstF (good s) c e)
  | 0,e,k,σ,_,_,h,_=>absurd h (Nat.lt_irrefl _)
  | c+1,e,k,σ,h2,hc,_,hv=>by
    have e3:firstF (good s) (c+1) e=bif good s e then some e else firstF (good s) c (e+1):=rfl
    rw [e3]
    have le:e≤s.length:=by exact Nat.not_lt.mp (lin [_,_,_] (.c 1 (.a (.v 0) (.a (.v 1) (.n 1))) (.a (.v 2) (.n 1)) (.c 1 (.a (.v 2) (.n 1)) (.v 0) .z)) rfl (Nat.le_of_eq hc))
    have lt:(s.take e).length=e:=by rw [List.length_take]; omega
    have hv':=put_W (v:=.str (s.take e)) hv
    generalize hσ:asgn σ kW (.str (s.take e))=σ' at hv'
    have arb:∃ L,(∀ {R τ k'},Tr kp s [.en q 0,.nd nR] e [] σ L (k+1) R τ k'→Tr kp s (altT q e).c e [] σ [] k R τ k')∧((c=0∧L=[])∨(0<c∧L=[]++[some (altT q (e+1))])):=by
      by_cases hl:e<s.length
      · exact⟨_,fun T=>.go (.arbt hl) T,.inr ⟨by exact Nat.not_le.mp (lin [_,_,_] (.c 1 (.a (.v 0) (.n 1)) (.a (.v 1) (.a (.v 2) (.n 1))) (.c 1 (.a (.v 1) (.n 1)) (.v 0) (.c 1 (.v 2) (.n 0) .z))) rfl (Nat.le_of_eq (Eq.symm hc)) hl),rfl⟩⟩
      · exact⟨_,fun T=>Tr.go0 (.arbf hl) T,.inl ⟨by exact Nat.le_antisymm (Nat.not_lt.mp (lin [_,_,_] (.c 1 (.a (.v 0) (.a (.v 1) (.n 1))) (.a (.v 2) (.n 1)) (.c 1 (.v 2) (.v 0) (.c 1 (.a (.n 0) (.n 1)) (.v 1) .z))) rfl (Nat.le_of_eq hc) (Nat.not_lt.mp hl))) (Nat.not_lt.mp (lin [_] (.c 1 (.a (.v 0) (.n 1)) (.n 0) .z) rfl)),rfl⟩⟩
    obtain⟨L,hA,hL⟩:=arb
    have pre:∀ {R τ k'},Tr kp s [.nd (.sg (.ch (s.take e))),.nd nE] e [] σ' L (k+4) R τ k'→Tr kp s (altT q e).c e [] σ [] k R τ k':=fun T =>
      hA (Tr.go0 (.en hq) (by
        show Tr kp s [.nd nR] e [] (asgn σ kW (.str (s.take e))) L (k+1+1) _ _ _
        rw [hσ]
        exact Tr.go0 .ca (Tr.go0 (.dly (tx hv')) T)))
    have next:∀ j,j≤91→(∀ {R τ k'},FallT kp s σ' L (k+j) R τ k'→Tr kp s (altT q e).c e [] σ [] k R τ k')→EndT kp s (altT q e).c e σ k (92 * (c+1)) (firstF (good s) c (e+1)):=fun j hj f=>by
      rcases hL with⟨rfl,rfl⟩ | ⟨h0,rfl⟩
      · exact .non (by exact Nat.not_lt.mp (lin [_,_] (.c 1 (.v 0) (.n 91) (.c 1 (.a (.a (.v 1) (.m 92 (.a (.n 0) (.n 1)))) (.n 1)) (.a (.v 1) (.v 0)) .z)) rfl hj)) (f (.inl ⟨rfl,rfl,rfl,rfl⟩))
      · exact(ends hq hn c (e+1) (k+j) σ' (Nat.le_succ_of_le h2) (by exact Nat.le_antisymm (Nat.not_lt.mp (lin [_,_,_] (.c 1 (.a (.v 0) (.a (.v 1) (.n 1))) (.a (.v 2) (.n 1)) (.c 1 (.a (.a (.v 2) (.n 1)) (.n 1)) (.a (.a (.v 0) (.n 1)) (.v 1)) .z)) rfl (Nat.le_of_eq hc))) (Nat.not_lt.mp (lin [_,_,_] (.c 1 (.a (.v 0) (.n 1)) (.a (.v 1) (.a (.v 2) (.n 1))) (.c 1 (.a (.a (.a (.v 1) (.n 1)) (.v 2)) (.n 1)) (.a (.v 0) (.n 1)) .z)) rfl (Nat.le_of_eq (Eq.symm hc))))) h0 (.inr ⟨_,hv'⟩)).pre (by exact Nat.not_lt.mp (lin [_,_] (.c 1 (.v 0) (.n 91) (.c 1 (.a (.m 92 (.a (.v 1) (.n 1))) (.n 1)) (.a (.v 0) (.m 92 (.v 1))) .z)) rfl hj)) fun T=>f (.inr ⟨[],altT q (e+1),rfl,T⟩)
    cases hm:metB s (s.take e) e with
    | false =>
      have hg:good s e=false:=by show(metB s (s.take e) e && _)=false; rw [hm]; rfl
      rw [hg]
      exact next 5 (by exact Nat.not_lt.mp (lin [] (.c 1 (.a (.n 91) (.n 1)) (.n 5) .z) rfl)) fun F=>pre (Tr.no (.sgf (ch_f hm)) F)
    | true =>
      have hl:=metB_le hm (by exact Nat.not_le.mp (lin [_,_] (.c 1 (.n 2) (.v 0) (.c 1 (.v 0) (.v 1) (.c 1 (.v 1) (.n 0) .z))) rfl h2 (Nat.le_of_eq (Eq.symm lt))))
      have pre2:∀ {R τ k'},Tr kp s [.nd (.rp nW),.nd (.sg (.rpos 0))] (e+(s.take e).length) [] σ' L (k+6) R τ k'→Tr kp s (altT q e).c e [] σ [] k R τ k':=fun T =>
        pre (Tr.go0 (.sgt (ch_t hm)) (Tr.go0 .ca T))
      have hr:=rounds (kp:=kp) (s:=s) hv' (by exact Nat.not_le.mp (lin [_,_] (.c 1 (.n 2) (.v 0) (.c 1 (.v 0) (.v 1) (.c 1 (.v 1) (.n 0) .z))) rfl h2 (Nat.le_of_eq (Eq.symm lt)))) 17 (e+(s.take e).length) (k+6) L hl (by exact Nat.not_le.mp (lin [_,_,_] (.c 1 (.v 0) (.n 16) (.c 1 (.n 2) (.v 1) (.c 1 (.a (.a (.v 1) (.v 2)) (.n 17)) (.v 0) .z))) rfl hn h2))
      have hg:good s e=fin s (s.take e) 17 (e+(s.take e).length):=by show(metB s (s.take e) e && _)=_; rw [hm]; rfl
      rw [hg]
      cases hf:fin s (s.take e) 17 (e+(s.take e).length) with
      | true =>
        obtain⟨k',h1,T⟩:=hr.met hf
        exact .met (by exact Nat.not_lt.mp (lin [_,_,_] (.c 1 (.v 0) (.a (.a (.v 1) (.n 6)) (.m 5 (.n 17))) (.c 1 (.a (.a (.v 1) (.m 92 (.a (.v 2) (.n 1)))) (.n 1)) (.v 0) .z)) rfl h1)) hv' (pre2 T)
      | false =>
        obtain⟨j,h1,T⟩:=hr.non hf
        exact next (j+6) (by exact Nat.not_lt.mp (lin [_] (.c 1 (.v 0) (.m 5 (.n 17)) (.c 1 (.a (.n 91) (.n 1)) (.a (.v 0) (.n 6)) .z)) rfl h1)) fun F=>pre2 (T _ _ _ (by rw [show k+6+j=k+(j+6) by exact lnq [_,_] (.a (.a (.v 0) (.n 6)) (.v 1)) (.a (.v 0) (.a (.v 1) (.n 6))) rfl]; exact F))
noncomputable def outR (s:List Nat):Option Nat:=if s.length<2 then none else firstF (good s) (s.length - 1) 2
inductive Oc (s:List Nat) (f:Option (Nat×Nat×Nm)→Hs→Nat→Prop):Prop where
  | met {e:Nat} {τ:Hs} {k':Nat} (h:outR s=some e) (hv:τ.vals=[(kW,.str (s.take e))]) (hk:k'≤9000) (hf:f (some (0,s.length,[])) τ k'):Oc s f
  | non {τ:Hs} {k':Nat} (h:outR s=none) (hk:k'≤9000) (hf:f none τ k'):Oc s f
theorem trial_ok (hq:kp q=some kW) (hn:s.length≤16):Oc s (fun R τ k'=>Mp kp s (n1 q) (cnt true s) 0 ⟨[],[]⟩ 0 R τ k'):=by
  have pre:∀ {R τ k'},Tr kp s [.nd (.sg (.len 2)),.nd .arb,.en q 0,.nd nR] 0 [] ⟨[],[]⟩ [] 3 R τ k'→Tr kp s [.nd (n1 q)] 0 [] ⟨[],[]⟩ [] 0 R τ k':=fun T =>
    Tr.go0 .ca (Tr.go0 .nw (Tr.go0 .ca T))
  have e1:cnt true s=0+1:=rfl
  rw [e1]
  by_cases h2:s.length<2
  · have ho:outR s=none:=if_pos h2
    exact .non (k':=4) ho (by decide) (.non (pre (.non (.sgf (by show oN (decide (0+2≤s.length)) _=_; rw [decide_eq_false (by exact lin [_] (.c 1 (.a (.v 0) (.n 1)) (.n 2) (.c 1 (.a (.n 0) (.n 2)) (.v 0) .z)) rfl h2)]; rfl)))) .z)
  · have ho:outR s=firstF (good s) (s.length - 1) 2:=if_neg h2
    have h:=ends (kp:=kp) hq hn (s.length - 1) 2 4 ⟨[],[]⟩ (Nat.le_refl _) (by omega) (by omega) (.inl rfl)
    have pre2:∀ {R τ k'},Tr kp s (altT q 2).c 2 [] ⟨[],[]⟩ [] 4 R τ k'→Tr kp s [.nd (n1 q)] 0 [] ⟨[],[]⟩ [] 0 R τ k':=fun T =>
      pre (Tr.go0 (.sgt (e:=2) (by show oN (decide (0+2≤s.length)) _=_; rw [decide_eq_true (by exact Nat.not_lt.mp (lin [_] (.c 1 (.n 2) (.v 0) (.c 1 (.a (.v 0) (.n 1)) (.a (.n 0) (.n 2)) .z)) rfl (Nat.not_lt.mp h2)))]; rfl)) T)
    rw [← ho] at h
    generalize hx:outR s=x at h
    cases h with
    | met hk hv T=>exact .met hx hv (by omega) (.met (pre2 T))
    | non hk T=>exact .non hx (by omega) (.non (pre2 T) .z)
end
end L1
namespace L1
noncomputable abbrev code1 (q:Nat):List Od:=[.mark,.one (.len 2),.arbw,.set q,.ask kW,.split 7,.jump 11,.mark,.ask kW,.gain,.jump 5,.one (.rpos 0),.done]
section
variable {kp:Nat→Option (List Nat)} {s t:List Nat} {σ τ:Hs} {k k' p e q:Nat} {R:RRes} {L:List (Option CW)}
noncomputable def FallO (kp:Nat→Option (List Nat)) (s:List Nat) (σ:Hs) (L:List (Option CW)) (k:Nat) (R:RRes) (τ:Hs) (k':Nat):Prop :=
  (L=[]∧R=.non∧τ=σ∧k'=k)∨∃ L' w,L=L'++[some w]∧Rn kp s w L' σ k R τ k'
theorem Rn.no {w:CW} {od:Od} (h:w.O[w.pc]? = some od) (X:OdR kp s od w σ .no) (F:FallO kp s σ L (k+1) R τ k'):Rn kp s w L σ k R τ k':=by
  rcases F with⟨rfl,rfl,rfl,rfl⟩ | ⟨L',w',rfl,T⟩
  · exact .non h X
  · exact .pop h X T
theorem Rn.go0 {w w':CW} {od:Od} {σ':Hs} (h:w.O[w.pc]? = some od) (X:OdR kp s od w σ (.go w' σ' [])) (T:Rn kp s w' L σ' (k+1) R τ k'):Rn kp s w L σ k R τ k' :=
  .go h X (by rw [List.append_nil]; exact T)
noncomputable abbrev cAt (q pc a:Nat) (mk:List Nat):CW:=⟨code1 q,pc,a,[],mk,[]⟩
noncomputable abbrev tAt (q:Nat) (t:List Nat) (pc a pc2:Nat) (mk:List Nat):CW:=⟨[.one (.ch t),.done],pc,a,[],mk,[(code1 q,pc2)]⟩
structure OutO (kp:Nat→Option (List Nat)) (s:List Nat) (w:CW) (σ:Hs) (L:List (Option CW)) (k:Nat) (b:Bool) (m:Nat):Prop where
  met:b=true→∃ k' w',k'≤k+m∧w'.a=s.length∧w'.nm=[]∧Rn kp s w L σ k (.met w') σ k'
  non:b=false→∃ j,j≤m∧∀ R τ k',FallO kp s σ L (k+j) R τ k'→Rn kp s w L σ k R τ k'
theorem roundsO (hv:σ.vals=[(kW,.str t)]) (ht:0<t.length):∀(f p k:Nat) (L:List (Option CW)),p≤s.length→s.length<p+f→OutO kp s (cAt q 5 p []) σ L k (fin s t f p) (9 * f)
  | 0,p,k,L,h1,h2=>absurd h2 (Nat.not_lt.mpr h1)
  | f+1,p,k,L,h1,h2=>by
    rw [fin_1]
    by_cases hp:s.length=p
    · rw [decide_eq_true hp]
      exact⟨fun _=>⟨k+4,cAt q 12 p [],Nat.add_le_add_left (by exact Nat.not_lt.mp (lin [_] (.c 1 (.a (.m 9 (.a (.v 0) (.n 1))) (.n 1)) (.n 4) .z) rfl)) k,hp.symm,rfl,
        .go (w:=cAt q 5 p []) rfl .split (Rn.go0 rfl .jump (Rn.go0 rfl (.onet (rp_t hp)) (.met rfl rfl)))⟩,fun h=>nomatch h⟩
    · rw [decide_eq_false hp,Bool.false_or]
      have pre:∀ {R τ k'},Rn kp s (tAt q t 0 p 9 [p]) L σ (k+5) R τ k'→Rn kp s (cAt q 5 p []) L σ k R τ k':=fun T =>
        .go (w:=cAt q 5 p []) rfl .split (Rn.go0 rfl .jump (Rn.no rfl (.onef (rp_f hp)) (.inr ⟨_,_,rfl,Rn.go0 rfl .mark (Rn.go0 rfl (.ask (tx hv)) T)⟩)))
      cases hm:metB s t p with
      | false =>
        exact⟨(fun h=>nomatch h),fun _=>⟨6,by exact Nat.not_lt.mp (lin [_] (.c 1 (.a (.m 9 (.a (.v 0) (.n 1))) (.n 1)) (.n 6) .z) rfl),fun R τ k' F=>pre (Rn.no rfl (.onef (ch_f hm)) F)⟩⟩
      | true =>
        rw [Bool.true_and]
        have hl:=metB_le hm ht
        have ih:=roundsO hv ht f (p+t.length) (k+9) L hl (by exact Nat.not_le.mp (lin [_,_,_,_] (.c 1 (.a (.n 0) (.n 1)) (.v 0) (.c 1 (.a (.v 1) (.n 1)) (.a (.v 2) (.a (.v 3) (.n 1))) (.c 1 (.a (.a (.v 2) (.v 0)) (.v 3)) (.v 1) .z))) rfl ht h2))
        have pre2:∀ {R τ k'},Rn kp s (cAt q 5 (p+t.length) []) L σ (k+9) R τ k'→Rn kp s (cAt q 5 p []) L σ k R τ k':=fun T =>
          pre (Rn.go0 rfl (.onet (ch_t hm)) (Rn.go0 rfl .done (Rn.go0 rfl (.gaint (by show p<p+t.length; exact Nat.not_le.mp (lin [_,_] (.c 1 (.a (.n 0) (.n 1)) (.v 0) (.c 1 (.a (.v 1) (.v 0)) (.v 1) .z)) rfl ht))) (Rn.go0 rfl .jump T))))
        exact⟨fun h=>by
          obtain⟨k',w',h1,h2,h3,T⟩:=ih.met h
          exact⟨k',w',by exact Nat.not_lt.mp (lin [_,_,_] (.c 1 (.v 0) (.a (.a (.v 1) (.n 9)) (.m 9 (.v 2))) (.c 1 (.a (.a (.v 1) (.m 9 (.a (.v 2) (.n 1)))) (.n 1)) (.v 0) .z)) rfl h1),h2,h3,pre2 T⟩,fun h=>by
          obtain⟨j,h1,T⟩:=ih.non h
          exact⟨j+9,by exact Nat.not_lt.mp (lin [_,_] (.c 1 (.v 0) (.m 9 (.v 1)) (.c 1 (.a (.m 9 (.a (.v 1) (.n 1))) (.n 1)) (.a (.v 0) (.n 9)) .z)) rfl h1),fun R τ k' F=>pre2 (T R τ k' (by rw [show k+9+j=k+(j+9) by exact lnq [_,_] (.a (.a (.v 0) (.n 9)) (.v 1)) (.a (.v 0) (.a (.v 1) (.n 9))) rfl]; exact F))⟩⟩
inductive EndO (kp:Nat→Option (List Nat)) (s:List Nat) (w:CW) (L:List (Option CW)) (σ:Hs) (k m:Nat):Option Nat→Prop where
  | met {e:Nat} {τ:Hs} {k':Nat} {w':CW} (hk:k'≤k+m) (hv:τ.vals=[(kW,.str (s.take e))]) (h1:w'.a=s.length) (h2:w'.nm=[]) (T:Rn kp s w L σ k (.met w') τ k'):EndO kp s w L σ k m (some e)
  | non {τ:Hs} {k':Nat} (hk:k'≤k+m) (T:Rn kp s w L σ k .non τ k'):EndO kp s w L σ k m none
theorem EndO.pre {w w':CW} {L':List (Option CW)} {j m m':Nat} {σ':Hs} {x:Option Nat} (h:EndO kp s w' L' σ' (k+j) m x) (hm:j+m≤m') (f:∀ {R τ k'},Rn kp s w' L' σ' (k+j) R τ k'→Rn kp s w L σ k R τ k'):EndO kp s w L σ k m' x:=by
  cases h with
  | met hk hv h1 h2 T=>exact .met (by exact Nat.not_lt.mp (lin [_,_,_,_,_] (.c 1 (.a (.v 0) (.v 1)) (.v 2) (.c 1 (.v 3) (.a (.a (.v 4) (.v 0)) (.v 1)) (.c 1 (.a (.a (.v 4) (.v 2)) (.n 1)) (.v 3) .z))) rfl hm hk)) hv h1 h2 (f T)
  | non hk T=>exact .non (by exact Nat.not_lt.mp (lin [_,_,_,_,_] (.c 1 (.a (.v 0) (.v 1)) (.v 2) (.c 1 (.v 3) (.a (.a (.v 4) (.v 0)) (.v 1)) (.c 1 (.a (.a (.v 4) (.v 2)) (.n 1)) (.v 3) .z))) rfl hm hk)) (f T)
noncomputable def pileO (q e c:Nat):List (Option CW):=(List.range' (e+1) c).reverse.map fun x=>some (cAt q 3 x [0])
theorem pileO_s {c:Nat}:pileO q e (c+1)=pileO q (e+1) c++[some (cAt q 3 (e+1) [0])]:=by
  show((List.range' (e+1) (c+1)).reverse.map _)=_
  rw [List.range'_succ,List.reverse_cons,List.map_append]; rfl
theorem endsO_step {kp:Nat→Option (List Nat)} {s:List Nat} {q:Nat} (hq:kp q=some kW) (hn:s.length≤16) (c e k:Nat) (σ:Hs) (h2:2≤e) (hc:e+c=s.length) (hv:σ.vals=[]∨∃ u,σ.vals=[(kW,u)])
    (next:∀ {j:Nat} {σ':Hs},σ'.vals=[(kW,.str (s.take e))]→j≤159→(∀ {R τ k'},FallO kp s σ' (pileO q e c) (k+j) R τ k'→Rn kp s (cAt q 3 e [0]) (pileO q e c) σ k R τ k')→EndO kp s (cAt q 3 e [0]) (pileO q e c) σ k (160 * (c+1)) (firstF (good s) c (e+1))) :
    EndO kp s (cAt q 3 e [0]) (pileO q e c) σ k (160 * (c+1)) (firstF (good s) (c+1) e):=by
    have e3:firstF (good s) (c+1) e=bif good s e then some e else firstF (good s) c (e+1):=rfl
    rw [e3]
    have lt:(s.take e).length=e:=by rw [List.length_take]; omega
    have hv':=put_W (v:=.str (s.take e)) hv
    generalize hσ:asgn σ kW (.str (s.take e))=σ' at hv'
    have pre:∀ {R τ k'},Rn kp s (tAt q (s.take e) 0 e 5 []) (pileO q e c) σ' (k+2) R τ k'→Rn kp s (cAt q 3 e [0]) (pileO q e c) σ k R τ k':=fun T =>
      Rn.go0 (w:=cAt q 3 e [0]) rfl (.set hq) (by
        show Rn kp s (cAt q 4 e []) (pileO q e c) (asgn σ kW (.str (s.take e))) (k+1) _ _ _
        rw [hσ]
        exact Rn.go0 rfl (.ask (tx hv')) T)
    cases hm:metB s (s.take e) e with
    | false =>
      have hg:good s e=false:=by show(metB s (s.take e) e && _)=false; rw [hm]; rfl
      rw [hg]
      exact next (j:=3) hv' (by exact Nat.not_lt.mp (lin [] (.c 1 (.a (.n 159) (.n 1)) (.n 3) .z) rfl)) fun F=>pre (Rn.no rfl (.onef (ch_f hm)) F)
    | true =>
      have hl:=metB_le hm (by exact Nat.not_le.mp (lin [_,_] (.c 1 (.n 2) (.v 0) (.c 1 (.v 0) (.v 1) (.c 1 (.v 1) (.n 0) .z))) rfl h2 (Nat.le_of_eq (Eq.symm lt))))
      have pre2:∀ {R τ k'},Rn kp s (cAt q 5 (e+(s.take e).length) []) (pileO q e c) σ' (k+4) R τ k'→Rn kp s (cAt q 3 e [0]) (pileO q e c) σ k R τ k':=fun T =>
        pre (Rn.go0 rfl (.onet (ch_t hm)) (Rn.go0 rfl .done T))
      have hr:=roundsO (kp:=kp) (s:=s) (q:=q) hv' (by exact Nat.not_le.mp (lin [_,_] (.c 1 (.n 2) (.v 0) (.c 1 (.v 0) (.v 1) (.c 1 (.v 1) (.n 0) .z))) rfl h2 (Nat.le_of_eq (Eq.symm lt)))) 17 (e+(s.take e).length) (k+4) (pileO q e c) hl (by exact Nat.not_le.mp (lin [_,_,_] (.c 1 (.v 0) (.n 16) (.c 1 (.n 2) (.v 1) (.c 1 (.a (.a (.v 1) (.v 2)) (.n 17)) (.v 0) .z))) rfl hn h2))
      have hg:good s e=fin s (s.take e) 17 (e+(s.take e).length):=by show(metB s (s.take e) e && _)=_; rw [hm]; rfl
      rw [hg]
      cases hf:fin s (s.take e) 17 (e+(s.take e).length) with
      | true =>
        obtain⟨k',w',h1,h2,h3,T⟩:=hr.met hf
        exact .met (by exact Nat.not_lt.mp (lin [_,_,_] (.c 1 (.v 0) (.a (.a (.v 1) (.n 4)) (.m 9 (.n 17))) (.c 1 (.a (.a (.v 1) (.m 160 (.a (.v 2) (.n 1)))) (.n 1)) (.v 0) .z)) rfl h1)) hv' h2 h3 (pre2 T)
      | false =>
        obtain⟨j,h1,T⟩:=hr.non hf
        exact next (j:=j+4) hv' (by exact Nat.not_lt.mp (lin [_] (.c 1 (.v 0) (.m 9 (.n 17)) (.c 1 (.a (.n 159) (.n 1)) (.a (.v 0) (.n 4)) .z)) rfl h1)) fun F=>pre2 (T _ _ _ (by rw [show k+4+j=k+(j+4) by exact lnq [_,_] (.a (.a (.v 0) (.n 4)) (.v 1)) (.a (.v 0) (.a (.v 1) (.n 4))) rfl]; exact F))
theorem endsO (hq:kp q=some kW) (hn:s.length≤16):∀(c e k:Nat) (σ:Hs),2≤e→e+c=s.length→(σ.vals=[]∨∃ u,σ.vals=[(kW,u)])→EndO kp s (cAt q 3 e [0]) (pileO q e c) σ k (160 * (c+1)) (firstF (good s) (c+1) e)
  | 0,e,k,σ,h2,hc,hv=>endsO_step hq hn 0 e k σ h2 hc hv fun _ j f=>.non (Nat.add_le_add_left (Nat.le_trans j (by decide)) k) (f (.inl ⟨rfl,rfl,rfl,rfl⟩))
  | c+1,e,k,σ,h2,hc,hv=>endsO_step hq hn (c+1) e k σ h2 hc hv fun hv' j f=>(endsO hq hn c (e+1) _ _ (Nat.le_succ_of_le h2) (by exact Nat.le_antisymm (Nat.not_lt.mp (lin [_,_,_] (.c 1 (.a (.v 0) (.a (.v 1) (.n 1))) (.v 2) (.c 1 (.a (.v 2) (.n 1)) (.a (.a (.v 0) (.n 1)) (.v 1)) .z)) rfl (Nat.le_of_eq hc))) (Nat.not_lt.mp (lin [_,_,_] (.c 1 (.v 0) (.a (.v 1) (.a (.v 2) (.n 1))) (.c 1 (.a (.a (.a (.v 1) (.n 1)) (.v 2)) (.n 1)) (.v 0) .z)) rfl (Nat.le_of_eq (Eq.symm hc))))) (.inr ⟨_,hv'⟩)).pre (by exact Nat.not_lt.mp (lin [_,_] (.c 1 (.v 0) (.n 159) (.c 1 (.a (.m 160 (.a (.a (.v 1) (.n 1)) (.n 1))) (.n 1)) (.a (.v 0) (.m 160 (.a (.v 1) (.n 1)))) .z)) rfl j)) fun T=>f (.inr ⟨_,_,pileO_s,T⟩)
theorem code_ok (hq:kp q=some kW) (hn:s.length≤16):Oc s (fun R τ k'=>Mo kp s (code1 q) (cnt true s) 0 ⟨[],[]⟩ 0 R τ k'):=by
  have e1:cnt true s=0+1:=rfl
  rw [e1]
  by_cases h2:s.length<2
  · have ho:outR s=none:=if_pos h2
    exact .non (k':=2) ho (by decide) (.non (Rn.go0 (w:=cAt q 0 0 []) rfl .mark (.non rfl (.onef (by show oN (decide (0+2≤s.length)) _=_; rw [decide_eq_false (by exact lin [_] (.c 1 (.a (.v 0) (.n 1)) (.n 2) (.c 1 (.a (.n 0) (.n 2)) (.v 0) .z)) rfl h2)]; rfl)))) .z)
  · have ho:outR s=firstF (good s) (s.length - 1) 2:=if_neg h2
    have h:=endsO (kp:=kp) hq hn (s.length - 2) 2 3 ⟨[],[]⟩ (Nat.le_refl _) (by omega) (.inl rfl)
    have pre:∀ {R τ k'},Rn kp s (cAt q 3 2 [0]) (pileO q 2 (s.length - 2)) ⟨[],[]⟩ 3 R τ k'→Rn kp s (cAt q 0 0 []) [] ⟨[],[]⟩ 0 R τ k':=fun T =>
      Rn.go0 (w:=cAt q 0 0 []) rfl .mark (Rn.go0 rfl (.onet (e:=2) (by show oN (decide (0+2≤s.length)) _=_; rw [decide_eq_true (by exact Nat.not_lt.mp (lin [_] (.c 1 (.n 2) (.v 0) (.c 1 (.a (.v 0) (.n 1)) (.a (.n 0) (.n 2)) .z)) rfl (Nat.not_lt.mp h2)))]; rfl)) (.go rfl (.arbw (by show 2≤s.length; exact Nat.not_lt.mp (lin [_] (.c 1 (.n 2) (.v 0) (.c 1 (.a (.v 0) (.n 1)) (.n 2) .z)) rfl (Nat.not_lt.mp h2)))) T))
    rw [show s.length - 2+1=s.length - 1 by omega,← ho] at h
    generalize hx:outR s=x at h
    cases h with
    | met hk hv h1 h3 T =>
      have:=Mo.met (c:=0) (b:=0) (Os:=code1 q) (pre T)
      rw [h1,h3] at this
      exact .met hx hv (by omega) this
    | non hk T=>exact .non hx (by omega) (.non (pre T) .z)
end
end L1
namespace L1
section
variable {s t:List Nat}
theorem metB_eq1 (s t:List Nat) (a:Nat):metB s t a=((s.drop a).take t.length == t):=by
  rw [metB,List.drop_take,Nat.add_sub_cancel_left]
theorem fin_rep (ht:0<t.length):∀(f p:Nat),p≤s.length→s.length<p+f→fin s t f p=(decide ((s.length - p) % t.length=0) && s.drop p == repL t ((s.length - p) / t.length))
  | 0,p,h1,h2=>absurd h2 (Nat.not_lt.mpr h1)
  | f+1,p,h1,h2=>by
    rw [fin_1]
    by_cases hp:s.length=p
    · rw [decide_eq_true hp,← hp,Nat.sub_self,Nat.zero_mod,Nat.zero_div,List.drop_length]; rfl
    · rw [decide_eq_false hp,Bool.false_or]
      have hl:(s.drop p).length=s.length - p:=List.length_drop
      have hX:s.drop (p+t.length)=(s.drop p).drop t.length:=List.drop_drop.symm
      have hm:=metB_eq1 s t p
      cases hb:metB s t p with
      | true =>
        have hle:=metB_le hb ht
        rw [hb] at hm
        have hX2:s.drop p=t++(s.drop p).drop t.length:=by
          have:=List.take_append_drop t.length (s.drop p)
          rw [eq_of_beq hm.symm] at this
          exact this.symm
        rw [Bool.true_and,fin_rep ht f (p+t.length) hle (by exact Nat.not_le.mp (lin [_,_,_,_] (.c 1 (.a (.n 0) (.n 1)) (.v 0) (.c 1 (.a (.v 1) (.n 1)) (.a (.v 2) (.a (.v 3) (.n 1))) (.c 1 (.a (.a (.v 2) (.v 0)) (.v 3)) (.v 1) .z))) rfl ht h2)),hX]
        have e1:s.length - p=s.length - (p+t.length)+t.length:=by omega
        rw [e1,Nat.add_mod_right,Nat.add_div_right _ ht]
        have e2:((s.drop p).drop t.length == repL t ((s.length - (p+t.length)) / t.length))=(s.drop p == repL t ((s.length - (p+t.length)) / t.length+1)):=by
          rw [Bool.eq_iff_iff,beq_iff_eq,beq_iff_eq]
          show _↔s.drop p=t++repL t _
          constructor
          · intro h; rw [← h]; exact hX2
          · intro h; rw [h,List.drop_left]
        rw [e2]
      | false =>
        rw [hb] at hm
        rw [Bool.false_and]
        cases h0:decide ((s.length - p) % t.length=0) with
        | false=>rfl
        | true =>
          rw [Bool.true_and]
          have h0:=of_decide_eq_true h0
          have hq:0<(s.length - p) / t.length:=by
            rcases Nat.eq_zero_or_pos ((s.length - p) / t.length) with h | h
            · have:=Nat.div_add_mod (s.length - p) t.length
              rw [h,h0,Nat.mul_zero] at this
              omega
            · exact h
          obtain⟨n,hn⟩:∃ n,(s.length - p) / t.length=n+1:=Nat.exists_eq_add_one.mpr hq
          rw [hn]
          symm
          rw [beq_eq_false_iff_ne]
          intro h
          have h:s.drop p=t++repL t n:=h
          rw [h,List.take_left,beq_self_eq_true] at hm
          cases hm
theorem good_hit {e:Nat} (h2:2≤e) (hn:s.length≤16) (he:e≤s.length):good s e=(decide (e<s.length) && hit s e):=by
  have lt:(s.take e).length=e:=by rw [List.length_take]; omega
  by_cases hl:e<s.length
  · rw [decide_eq_true hl,Bool.true_and]
    have h:=fin_rep (s:=s) (t:=s.take e) (by exact Nat.not_le.mp (lin [_,_] (.c 1 (.n 2) (.v 0) (.c 1 (.v 0) (.v 1) (.c 1 (.v 1) (.n 0) .z))) rfl h2 (Nat.le_of_eq (Eq.symm lt)))) 19 0 (Nat.zero_le _) (by exact Nat.not_le.mp (lin [_] (.c 1 (.v 0) (.n 16) (.c 1 (.a (.n 0) (.n 19)) (.v 0) .z)) rfl hn))
    rw [fin_1,decide_eq_false (by exact Nat.ne_of_gt (Nat.not_le.mp (lin [_,_] (.c 1 (.n 2) (.v 0) (.c 1 (.a (.v 0) (.n 1)) (.v 1) (.c 1 (.v 1) (.n 0) .z))) rfl h2 hl))),Bool.false_or,metB_eq1,List.drop_zero,lt,beq_self_eq_true,Bool.true_and,Nat.zero_add,fin_1,decide_eq_false (by exact Nat.ne_of_gt (Nat.not_le.mp (lin [_,_] (.c 1 (.a (.v 0) (.n 1)) (.v 1) (.c 1 (.v 1) (.v 0) .z)) rfl hl))),Bool.false_or,lt,Nat.sub_zero] at h
    show(metB s (s.take e) e && fin s (s.take e) 17 (e+(s.take e).length))=_
    rw [lt]
    exact h
  · rw [decide_eq_false hl,Bool.false_and]
    cases hm:metB s (s.take e) e with
    | false=>show(metB s (s.take e) e && _)=false; rw [hm]; rfl
    | true =>
      have:=metB_le hm (by exact Nat.not_le.mp (lin [_,_] (.c 1 (.n 2) (.v 0) (.c 1 (.v 0) (.v 1) (.c 1 (.v 1) (.n 0) .z))) rfl h2 (Nat.le_of_eq (Eq.symm lt))))
      omega
theorem firstF_ext {p r:Nat→Bool}:∀(c k:Nat),(∀ i,k≤i→i<k+c→p i=r i)→firstF p c k=firstF r c k
  | 0,_,_=>rfl
  | c+1,k,h=>by
    show(bif p k then some k else firstF p c (k+1))=bif r k then some k else firstF r c (k+1)
    rw [h k (Nat.le_refl _) (by exact Nat.not_le.mp (lin [_,_] (.c 1 (.a (.v 0) (.a (.v 1) (.n 1))) (.v 0) .z) rfl)),firstF_ext c (k+1) fun i h1 h2=>h i (by exact Nat.not_lt.mp (lin [_,_] (.c 1 (.a (.v 0) (.n 1)) (.v 1) (.c 1 (.a (.v 1) (.n 1)) (.v 0) .z)) rfl h1)) (by exact Nat.not_le.mp (lin [_,_,_] (.c 1 (.a (.v 0) (.n 1)) (.a (.a (.v 1) (.n 1)) (.v 2)) (.c 1 (.a (.v 1) (.a (.v 2) (.n 1))) (.v 0) .z)) rfl h2))]
theorem firstF_cut {p:Nat→Bool}:∀(a b k:Nat),(∀ i,k+a≤i→i<k+a+b→p i=false)→firstF p (a+b) k=firstF p a k
  | 0,0,_,_=>rfl
  | 0,b+1,k,h=>by
    rw [Nat.zero_add]
    show(bif p k then some k else firstF p b (k+1))=none
    rw [h k (Nat.le_refl _) (by exact Nat.not_le.mp (lin [_,_] (.c 1 (.a (.a (.v 0) (.n 0)) (.a (.v 1) (.n 1))) (.v 0) .z) rfl)),cond_false]
    have:=firstF_cut (p:=p) 0 b (k+1) fun i h1 h2=>h i (by exact Nat.not_lt.mp (lin [_,_] (.c 1 (.a (.a (.v 0) (.n 1)) (.n 0)) (.v 1) (.c 1 (.a (.v 1) (.n 1)) (.a (.v 0) (.n 0)) .z)) rfl h1)) (by exact Nat.not_le.mp (lin [_,_,_] (.c 1 (.a (.v 0) (.n 1)) (.a (.a (.a (.v 1) (.n 1)) (.n 0)) (.v 2)) (.c 1 (.a (.a (.v 1) (.n 0)) (.a (.v 2) (.n 1))) (.v 0) .z)) rfl h2))
    rw [Nat.zero_add] at this
    exact this
  | a+1,b,k,h=>by
    rw [Nat.add_right_comm]
    show(bif p k then some k else firstF p (a+b) (k+1))=bif p k then some k else firstF p a (k+1)
    rw [firstF_cut a b (k+1) fun i h1 h2=>h i (by exact Nat.not_lt.mp (lin [_,_,_] (.c 1 (.a (.a (.v 0) (.n 1)) (.v 1)) (.v 2) (.c 1 (.a (.v 2) (.n 1)) (.a (.v 0) (.a (.v 1) (.n 1))) .z)) rfl h1)) (by exact Nat.not_le.mp (lin [_,_,_,_] (.c 1 (.a (.v 0) (.n 1)) (.a (.a (.a (.v 1) (.n 1)) (.v 2)) (.v 3)) (.c 1 (.a (.a (.v 1) (.a (.v 2) (.n 1))) (.v 3)) (.v 0) .z)) rfl h2))]
theorem out_hit (hn:s.length≤16):outR s=firstF (hit s) (s.length / 2 - 1) 2:=by
  by_cases h2:s.length<2
  · rw [outR,if_pos h2,show s.length / 2 - 1=0 by omega]; rfl
  · rw [outR,if_neg h2,firstF_ext (r:=fun e=>decide (e<s.length) && hit s e) _ _ fun i h1 h2=>good_hit h1 hn (by omega),show s.length - 1=(s.length / 2 - 1)+(s.length - s.length / 2) by omega,
      firstF_cut _ _ _ fun i h1 h3=>?_]
    · exact firstF_ext _ _ fun i h1 h3=>by show(decide (i<s.length) && _)=_; rw [decide_eq_true (by omega),Bool.true_and]
    · show(decide (i<s.length) && (decide (s.length % i=0) && _))=false
      by_cases hi:i<s.length
      · have:s.length % i≠0:=by
          rw [Nat.mod_eq_sub_mod (Nat.le_of_lt hi),Nat.mod_eq_of_lt (by omega)]
          omega
        rw [decide_eq_false this,Bool.false_and,Bool.and_false]
      · rw [decide_eq_false hi]; rfl
theorem first_le {p:Nat→Bool} {e:Nat}:∀(c k:Nat),firstF p c k=some e→k≤e∧e<k+c
  | 0,_,h=>nomatch h
  | c+1,k,h=>by
    have h:(bif p k then some k else firstF p c (k+1))=some e:=h
    cases hp:p k with
    | true=>rw [hp] at h; cases h; exact⟨Nat.le_refl _,by exact Nat.not_le.mp (lin [_,_] (.c 1 (.a (.v 0) (.a (.v 1) (.n 1))) (.v 0) .z) rfl)⟩
    | false =>
      rw [hp] at h
      have:=first_le c (k+1) h
      exact⟨by exact Nat.not_lt.mp (lin [_,_] (.c 1 (.a (.v 0) (.n 1)) (.v 1) (.c 1 (.a (.v 1) (.n 1)) (.v 0) .z)) rfl this.1),by exact Nat.not_le.mp (lin [_,_,_] (.c 1 (.a (.v 0) (.n 1)) (.a (.a (.v 1) (.n 1)) (.v 2)) (.c 1 (.a (.v 1) (.a (.v 2) (.n 1))) (.v 0) .z)) rfl this.2)⟩
end
end L1
namespace L1
section
variable {d:Nat}
noncomputable abbrev refW:O:=.inst 1 [(15,.str [118,97,114]),(16,.none),(17,.str kW)]
theorem compA (a b c1 c2 c3 c4 c5 c6 c7 c8:O):(callF P1 (d+9) 11 [nV (n1 2)] [a,b,refW,c1,c2,c3,c4,c5,c6,c7,c8]).map (fun x=>(x.1,x.2[44]?,x.2.take 11))=some (.loc 44,some (.list ((code1 2).map oV)),[a,b,refW,c1,c2,c3,c4,c5,c6,c7,c8]):=by kernel_rfl
theorem compB (a b c c1 c2 c3 c4 c5 c6 c7 c8:O):(callF P1 (d+9) 11 [nV (n1 3)] [a,b,c,refW,c1,c2,c3,c4,c5,c6,c7,c8]).map (fun x=>(x.1,x.2[45]?,x.2.take 12))=some (.loc 45,some (.list ((code1 3).map oV)),[a,b,c,refW,c1,c2,c3,c4,c5,c6,c7,c8]):=by kernel_rfl
end
end L1
namespace L1
section
variable {own:List FI} {d:Nat} {H:Hp} {co ol f:Nat} {X:List V} {v:V} {t:List Nat}
theorem emit1 (hc:H[co]? = some (.inst 0 [(0,.loc ol)])) (ho:H[ol]? = some (.list X)) (hne:co≠ol) (hl:X.length<lim):callF (pgc own) (d+1) 4 [.loc co,v] H=some (.int X.length,H.set ol (.list (X++[v]))) :=
  call_ret rfl rfl (s_seq (s_expr0 (r_bm (r_attr (r_loc rfl) (by exact g_inst (by solve_by_elim [app_new,set_at,set_off,app_in,ne_len,len_ne,Ne.symm]) rfl)) (g_kindL (by solve_by_elim [app_new,set_at,set_off,app_in,ne_len,len_ne,Ne.symm]) rfl) (r_cons (r_loc rfl) r_nil) (g_append ho hl))) (s_stop (s_ret0 (r_bin (r_prim (r_cons (r_attr (r_loc rfl) (by exact g_inst (set_off hne.symm hc) rfl)) r_nil) (g_len (set_at ho))) r_lit (by show some (V.int _,_)=_; rw [List.length_append,Int.natCast_add]; exact congrArg (fun z=>some (V.int z,_)) (Int.add_sub_cancel _ _))))))
noncomputable abbrev chV (t:List Nat):V:=.tup [.str [99,104,97,114,115],.str t]
theorem begun1 (hc:H[co]? = some (.inst 0 [(0,.loc ol)])) (ho:H[ol]? = some (.list X)) (hne:co≠ol) (hl:X.length<lim):callF (pgc own) (d+2) 6 [.loc co,chV t] H=some (.loc (H.set ol (.list (X++[oV (.one (.ch t))]))).length,H.set ol (.list (X++[oV (.one (.ch t))]))++[.list []]) :=
  call_ret rfl rfl (s_seq (s_asg0 (r_idx (r_loc rfl) r_lit (by rfl)) t_loc0) (s_seq (s_if_f (r_cmp (r_loc rfl) r_lit (by rfl)) s_nil0) (s_seq (s_if_f (r_cmp (r_loc rfl) r_lit (by rfl)) s_nil0) (s_seq (s_if_f (r_cmp (r_loc rfl) r_lit (by rfl)) s_nil0) (s_seq (s_if_f (r_or (r_cmp (r_loc rfl) r_lit (by rfl)) (r_or (r_cmp (r_loc rfl) r_lit (by rfl)) r_or0)) s_nil0) (s_seq (s_if_t (r_cmp (r_loc rfl) r_glob (by rfl)) (s_seq (s_expr0 (r_meth (r_loc rfl) hc rfl rfl (r_cons (r_tup (r_cons r_glob (r_cons (r_loc rfl) (r_cons (r_ife_t (r_cmp (r_prim (r_cons (r_loc rfl) r_nil) (by first | rfl | exact g_len (by solve_by_elim [app_new,set_at,set_off,app_in,ne_len,len_ne,Ne.symm]))) r_lit (by rfl)) (r_idx (r_loc rfl) r_lit (by rfl))) r_nil)))) r_nil) (emit1 hc ho hne hl))) s_nil0)) (s_stop (s_ret0 (r_lst r_nil)))))))))
theorem sl_rev {n:Nat} {ls:List V} (h:H[n]? = some (.list ls)):sliceV (.loc n) .none .none (.int (-1)) H=some (.loc H.length,H++[.list ls.reverse]):=by
  show atL H n _=_; rw [atL_at h]; rfl
theorem g_ext {n k:Nat} {ls ms:List V} (h:H[n]? = some (.list ls)) (h2:H[k]? = some (.list ms)) (hne:n≠k) (hl:ls.length+ms.length<lim):bmV .extend (.loc n) [.loc k] H=some (.none,H.set n (.list (ls++ms))) :=
  (atL_at h).trans ((atL_at h2).trans (gd_at ⟨hne,hl⟩))
noncomputable def tP:ME:=(.cmp .gt (.prim .len [(.loc 2)]) (.lit (.int 0)))
noncomputable def bPt:List MS:=[(.asg (.tup [(.loc 3),(.loc 4)]) (.bmeth (.loc 2) .pop [])),(.ife (.cmp .eq (.loc 3) (.glob (.str [112,117,116]))) [(.expr (.bmeth (.loc 2) .extend [(.slice (.meth (.loc 0) 103 [(.loc 4)]) (.lit .none) (.lit .none) (.neg (.lit (.int 1))))]))] [(.ife (.cmp .eq (.loc 3) (.glob (.str [101,109,105,116]))) [(.expr (.meth (.loc 0) 101 [(.loc 4)]))] [(.expr (.meth (.loc 0) 106 [(.loc 3),(.loc 4)]))])])]
structure Pt1 (H:Hp) (co ol:Nat) (X:List V) (H':Hp):Prop where
  ho:H'[ol]? = some (.list X)
  hc:H'[co]? = some (.inst 0 [(0,.loc ol)])
  len:H.length≤H'.length
  off:∀ i x,i≠ol→H[i]? = some x→H'[i]? = some x
theorem put1 (hc:H[co]? = some (.inst 0 [(0,.loc ol)])) (ho:H[ol]? = some (.list X)) (hne:co≠ol) (hl:X.length<lim) {zg:Prop} (zk:∀ H',callF (pgc own) (d+3) 5 [.loc co,chV t] H=some (.none,H')→Pt1 H co ol (X++[oV (.one (.ch t))]) H'→zg):zg:=by
  have hcl:H.length≠co:=len_ne hc
  have hol:H.length≠ol:=len_ne ho
  let a:V:=.tup [.str [112,117,116],chV t]
  have b:∃ l H',whlN (evE (pgc own) (callF (pgc own) (d+2)) tP) (exB (pgc own) (callF (pgc own) (d+2)) bPt) 1048576 [some (.loc co),some (chV t),some (.loc H.length),none,none] (H++[.list [a]])=some (.next,l,H')∧Pt1 H co ol (X++[oV (.one (.ch t))]) H':=by
    refine⟨_,_,wn_next (n:=1048575) (H1:=H++[.list [a]]) (r_cmp (r_prim (r_cons (r_loc rfl) r_nil) (g_len app_new)) r_lit (by rfl)) ((s_seq (s_asg0 (r_bm (r_loc rfl) (g_kindL app_new rfl) r_nil (g_pop (ls:=[]) app_new)) (t_tup0 (by rfl) (t_cons0 t_loc0 (t_cons0 t_loc0 t_nil0)))) (s_seq (s_if_t (r_cmp (r_loc rfl) r_glob (by rfl)) (s_seq (s_expr0 (r_bm (r_loc rfl) (g_kindL (set_at app_new) rfl) (r_cons (r_slice (r_meth (r_loc rfl) (set_off hcl (app_in hc)) rfl rfl (r_cons (r_loc rfl) r_nil) (begun1 (set_off hcl (app_in hc)) (set_off hol (app_in ho)) hne hl)) r_lit r_lit (r_neg r_lit) (sl_rev app_new)) r_nil) (g_ext (ls:=[]) (ms:=[]) (app_in (app_in (set_off hol.symm (set_at app_new)))) app_new (ne_len (app_in (set_off hol.symm (set_at app_new)))) (by decide)))) s_nil0)) s_nil0))) (wn_end (r_cmp (r_prim (r_cons (r_loc rfl) r_nil) (g_len (set_at (app_in (app_in (set_off hol.symm (set_at app_new)))))))  r_lit (by rfl))),?_⟩
    exact⟨set_off hol (app_in (app_in (set_at (set_off hol (app_in ho))))),set_off hcl (app_in (app_in (set_off hne.symm (set_off hcl (app_in hc))))),by rw [List.length_set,List.length_append,List.length_append,List.length_set,List.length_set,List.length_append]; exact Nat.not_lt.mp (lin [_,_,_,_] (.c 1 (.a (.a (.a (.a (.v 0) (.v 1)) (.v 2)) (.v 3)) (.n 1)) (.v 0) .z) rfl),fun i x hi h=>set_off (len_ne h) (app_in (app_in (set_off hi.symm (set_off (len_ne h) (app_in h)))))⟩
  obtain⟨l,H',hw,p⟩:=b
  exact zk H' (call_next rfl rfl (s_seq (s_asg0 (r_lst (r_cons (r_tup (r_cons r_glob (r_cons (r_loc rfl) r_nil))) r_nil)) t_loc0) (s_seq (s_whl0 hw) s_nil0))) p
noncomputable def bSt:List MS:=[(.ife (.cmp .isin (.idx (.loc 2) (.lit (.int 0))) (.tup [(.glob (.str [106,117,109,112])),(.glob (.str [115,112,108,105,116]))])) [(.asg (.loc 3) (.idx (.loc 2) (.lit (.int 1)))),(.whl (.cmp .eq (.idx (.idx (.loc 0) (.loc 3)) (.lit (.int 0))) (.glob (.str [106,117,109,112]))) [(.asg (.loc 3) (.idx (.idx (.loc 0) (.loc 3)) (.lit (.int 1))))]),(.asg (.loc 2) (.tup [(.idx (.loc 2) (.lit (.int 0))),(.loc 3)]))] []),(.expr (.bmeth (.loc 1) .append [(.loc 2)]))]
theorem st1 {x z:V} {w:List Nat} {y:Option V} {Y:List V} (h0:idxV H x (.int 0)=some (.str w)) (h1:cmpV H .isin (.str w) (.tup [.str [106,117,109,112],.str [115,112,108,105,116]])=some false) (hf:H[f]? = some (.list Y)) (hl:Y.length<lim):exB (pgc own) (callF (pgc own) d) bSt [some z,some (.loc f),some x,y] H=some (.next,[some z,some (.loc f),some x,y],H.set f (.list (Y++[x]))) :=
  (s_seq (s_if_f (r_cmp (r_idx (r_loc rfl) r_lit h0) (r_tup (r_cons r_glob (r_cons r_glob r_nil))) h1) s_nil0) (s_seq (s_expr0 (r_bm (r_loc rfl) (g_kindL hf rfl) (r_cons (r_loc rfl) r_nil) (g_append hf hl))) s_nil0))
noncomputable abbrev cV (t:List Nat):List V:=[oV (.one (.ch t)),oV .done]
theorem straight1 (ho:H[ol]? = some (.list (cV t))) {zg:Prop} (zk:∀ H':Hp,callF (pgc own) (d+1) 10 [.loc ol] H=some (.loc H.length,H')→H'[H.length]? = some (.list (cV t))→H.length≤H'.length→(∀(i:Nat) (x:O),H[i]? = some x→H'[i]? = some x)→zg):zg:=by
  have hne:H.length≠ol:=len_ne ho
  have h1:(H++[O.list []])[ol]? = some (.list (cV t)):=app_in ho
  have h2:((H++[O.list []]).set H.length (.list ([]++[oV (.one (.ch t))])))[ol]? = some (.list (cV t)):=set_off hne h1
  have h3:(((H++[O.list []]).set H.length (.list ([]++[oV (.one (.ch t))]))).set H.length (.list ([]++[oV (.one (.ch t))]++[oV .done])))[ol]? = some (.list (cV t)):=set_off hne h2
  have hloop:forN (.one 2) (fun l H=>exB (pgc own) (callF (pgc own) d) bSt l H) 1048576 (.lst ol 0) [some (.loc ol),some (.loc H.length),none,none] (H++[O.list []])=some (.next,_,_) :=
    fn_next (n:=1048575) (n_lst h1 rfl) rfl (st1 rfl rfl app_new (lt_lim (by show 0<100000; decide))) (fn_next (n:=1048574) (n_lst h2 rfl) rfl (st1 rfl rfl (set_at app_new) (lt_lim (by show 1<100000; decide))) (fn_end (n_lst0 h3 rfl)))
  exact zk _ (call_ret rfl rfl (s_seq (s_asg0 (r_lst r_nil) t_loc0) (s_seq (s_for0 (r_loc rfl) (i_lst (app_in ho)) hloop) (s_stop (s_ret0 (r_loc rfl)))))) (set_at (set_at app_new)) (by rw [List.length_set,List.length_set,List.length_append]; exact Nat.le_add_right _ _) (fun i x h=>set_off (len_ne h) (set_off (len_ne h) (app_in h)))
theorem code_init:callF (pgc own) (d+1) 3 [.loc H.length] (H++[.inst 0 []])=some (.none,(H++[O.inst 0 []]++[O.list []]).set H.length (O.inst 0 [(0,.loc (H.length+1))])) :=
  call_next rfl rfl (s_seq (s_asg0 (r_lst r_nil) (t_attr0 (r_loc rfl) ((g_setA (app_in app_new)).trans (by rw [List.length_append]; rfl)))) s_nil0)
theorem comp1 (t:List Nat) (H:Hp):CompE own d t H:=by
  have l1:(H++[O.inst 0 []]).length=H.length+1:=by rw [List.length_append]; rfl
  have hc:((H++[O.inst 0 []]++[O.list []]).set H.length (O.inst 0 [(0,.loc (H.length+1))]))[H.length]? = some (.inst 0 [(0,.loc (H.length+1))]):=set_at (app_in app_new)
  have ho:((H++[O.inst 0 []]++[O.list []]).set H.length (O.inst 0 [(0,.loc (H.length+1))]))[H.length+1]? = some (.list []):=set_off (Nat.ne_of_lt (Nat.lt_succ_self _)) (by rw [← l1]; exact app_new)
  have ll:((H++[O.inst 0 []]++[O.list []]).set H.length (O.inst 0 [(0,.loc (H.length+1))])).length=H.length+1+1:=by rw [List.length_set,List.length_append,l1]; rfl
  have hg:∀ i x,H[i]? = some x→((H++[O.inst 0 []]++[O.list []]).set H.length (O.inst 0 [(0,.loc (H.length+1))]))[i]? = some x:=fun i x h=>set_off (len_ne h) (app_in (app_in h))
  have ci:=code_init (own:=own) (d:=d+2) (H:=H)
  generalize hG:(H++[O.inst 0 []]++[O.list []]).set H.length (O.inst 0 [(0,.loc (H.length+1))])=G at hc ho hg ci ll
  have hne:H.length≠H.length+1:=Nat.ne_of_lt (Nat.lt_succ_self _)
  refine put1 (own:=own) (d:=d) (t:=t) hc ho hne (by show 0<lim; exact lt_lim (by decide)) fun H2 e1 p=>?_
  have hc2:=p.hc
  have ho2:=p.ho
  refine straight1 (own:=own) (d:=d+2) (t:=t) (H:=H2.set (H.length+1) (.list ([]++[oV (.one (.ch t))]++[oV .done]))) (set_at ho2) fun H3 e2 g1 g2 g3=>?_
  have g2':H2.length≤H3.length:=by rw [List.length_set] at g2; exact g2
  have hl3:H.length≤H3.length:=Nat.le_trans (by exact Nat.not_lt.mp (lin [_,_] (.c 1 (.a (.a (.v 0) (.n 1)) (.n 1)) (.v 1) (.c 1 (.a (.v 1) (.n 1)) (.v 0) .z)) rfl (Nat.le_of_eq (Eq.symm ll)))) (Nat.le_trans p.len g2')
  refine .mk _ H3 (call_ret rfl rfl (s_seq (s_asg0 (r_new r_nil rfl ci) t_loc0) (s_seq (s_expr0 (r_meth (r_loc rfl) hc rfl rfl (r_cons (r_loc rfl) r_nil) e1)) (s_seq (s_expr0 (r_meth (r_loc rfl) hc2 rfl rfl (r_cons (r_tup (r_cons r_glob r_nil)) r_nil) (emit1 hc2 ho2 hne (lt_lim (by show 1<100000; decide))))) (s_stop (s_ret0 (r_call r_glob (r_cons (r_attr (r_loc rfl) (by exact g_inst (set_off hne.symm hc2) rfl)) r_nil) e2))))))) (by rw [List.length_set]; exact Nat.le_trans (by exact Nat.not_lt.mp (lin [_,_] (.c 1 (.a (.a (.v 0) (.n 1)) (.n 1)) (.v 1) (.c 1 (.a (.v 1) (.n 1)) (.v 0) .z)) rfl (Nat.le_of_eq (Eq.symm ll)))) p.len) g1 hl3 fun i hi=>?_
  have hx:=List.getElem?_eq_getElem hi
  rw [hx]
  exact g3 i _ (set_off (Nat.ne_of_gt (Nat.lt_succ_of_lt hi)) (p.off i _ (Nat.ne_of_lt (Nat.lt_succ_of_lt hi)) (hg i _ hx)))
end
end L1
namespace L1
noncomputable abbrev kpq (q r:Nat):Option (List Nat):=bif r == q then some kW else none
theorem kpq_q {q:Nat}:kpq q q=some kW:=by show(bif q == q then _ else _)=_; rw [beq_self_eq_true]; rfl
theorem kpq_inv {q r:Nat} {key:List Nat} (h:kpq q r=some key):r=q∧key=kW:=by
  cases hb:r == q with
  | false=>rw [show kpq q r=none by show(bif r == q then _ else _)=_; rw [hb]; rfl] at h; cases h
  | true=>cases beq_iff_eq.mp hb; rw [kpq_q] at h; cases h; exact⟨rfl,rfl⟩
structure Gf (q:Nat) (G:Hp):Prop where
  l:G.length=q+9
  ref:G[q]? = some refW
  va:G[q+1]? = some (.dict [])
  rf:G[q+2]? = some (.list [])
  ho:G[q+3]? = some (hostO (.loc (q+1)) (.loc (q+2)) (.loc (q+4)) 9999 (0:Nat))
  lg:G[q+4]? = some (.list [])
  va2:G[q+5]? = some (.dict [])
  rf2:G[q+6]? = some (.list [])
  ho2:G[q+7]? = some (hostO (.loc (q+5)) (.loc (q+6)) (.loc (q+8)) 9999 (0:Nat))
  lg2:G[q+8]? = some (.list [])
inductive Cp (q:Nat) (G:Hp):Prop where
  | mk (r:Nat) (H3:Hp) (e:callF P1 98 11 [nV (n1 q)] G=some (.loc r,H3)) (lo:q+9≤r) (hr:H3[r]? = some (.list ((code1 q).map oV))) (off:∀ i,i<q+9→H3[i]? = G[i]?):Cp q G
theorem cp_of {q r:Nat} {G:Hp} {x:Option (V×Hp)} {ls:List V} (hx:callF P1 98 11 [nV (n1 q)] G=x) (e:x.map (fun x=>(x.1,x.2[r]?,x.2.take (q+9)))=some (.loc r,some (.list ((code1 q).map oV)),G)) (lo:q+9≤r):Cp q G:=by
  refine map_some_k e fun a h1 h2=>?_
  obtain⟨v,H3⟩:=a
  have a1:=congrArg Prod.fst h2
  have a2:=congrArg (fun z=>z.2.1) h2
  have a3:=congrArg (fun z=>z.2.2) h2
  dsimp only at a1 a2 a3
  subst a1
  exact .mk r H3 (hx.trans h1) lo a2 fun i hi=>by rw [← a3,List.getElem?_take_of_lt hi]
inductive Rs (q:Nat) (s:List Nat) (G:Hp):Prop where
  | non (H4 H5:Hp) (h:outR s=none) (e4:callF P1 99 59 [nV (n1 q),.str s,.bool true,.loc (q+3)] G=some (.none,H4)) (e5:callF P1 99 64 [nV (n1 q),.str s,.bool true,.loc (q+7)] H4=some (.none,H5)):Rs q s G
  | met (H4 H5:Hp) (e j j2:Nat) (fs fs2:List (Nat×V)) (h:outR s=some e) (e4:callF P1 99 59 [nV (n1 q),.str s,.bool true,.loc (q+3)] G=some (.tup [.int (0:Nat),.int (s.length:Nat),.loc j],H4)) (e5:callF P1 99 64 [nV (n1 q),.str s,.bool true,.loc (q+7)] H4=some (.tup [.int (0:Nat),.int (s.length:Nat),.loc j2],H5))
      (hj:H5[j]? = some (.list [])) (hj2:H5[j2]? = some (.list [])) (hh:H5[q+3]? = some (.inst 4 ((9,.loc (q+1))::fs))) (hv:H5[q+1]? = some (.dict [(kW,.str (s.take e))])) (hh2:H5[q+7]? = some (.inst 4 ((9,.loc (q+5))::fs2))) (hv2:H5[q+5]? = some (.dict [(kW,.str (s.take e))])):Rs q s G
theorem kd0:Kd [kW] []:=⟨.nil,fun _ h=>nomatch h⟩
theorem gx {q:Nat} {s:List Nat} (hs:s.length≤16):Gx (kpq q) [kW] s 9999 0:=⟨fun r key h=>by rw [(kpq_inv h).2]; exact .head _,by decide,by decide,by decide,by exact Nat.not_le.mp (lin [_] (.c 1 (.v 0) (.n 16) (.c 1 (.n 1000) (.v 0) .z)) rfl hs)⟩
theorem runs {q:Nat} {s:List Nat} {G:Hp} (hs:s.length≤16) (g:Gf q G) (c:Cp q G):Rs q s G:=by
  obtain⟨r,H3,hc,lo,hr,off⟩:=c
  have at3:∀ {i:Nat} {x:Option O},i<q+9→G[i]? = x→H3[i]? = x:=fun hi h=>(off _ hi).trans h
  have x1:HX (kpq q) (q+3) (q+1) (q+2) (q+4) 9999 0 ⟨[],[]⟩ H3:=⟨at3 (by exact Nat.not_le.mp (lin [_] (.c 1 (.a (.v 0) (.n 9)) (.a (.v 0) (.n 3)) .z) rfl)) g.ho,at3 (by exact Nat.not_le.mp (lin [_] (.c 1 (.a (.v 0) (.n 9)) (.a (.v 0) (.n 1)) .z) rfl)) g.va,at3 (by exact Nat.not_le.mp (lin [_] (.c 1 (.a (.v 0) (.n 9)) (.a (.v 0) (.n 4)) .z) rfl)) g.lg,at3 (by exact Nat.not_le.mp (lin [_] (.c 1 (.a (.v 0) (.n 9)) (.a (.v 0) (.n 2)) .z) rfl)) g.rf,fun r key h=>by obtain⟨rfl,rfl⟩:=kpq_inv h; exact at3 (by exact Nat.not_le.mp (lin [_] (.c 1 (.a (.v 0) (.n 9)) (.v 0) .z) rfl)) g.ref,by exact Nat.ne_of_lt (Nat.not_le.mp (lin [_] (.c 1 (.a (.v 0) (.n 4)) (.a (.v 0) (.n 2)) .z) rfl))⟩
  have l3:q+9≤H3.length:=Nat.le_trans lo (Nat.le_of_lt (lt_get hr))
  have rg:Rg (kpq q) [kW] s 9999 0:=⟨gx hs,by omega⟩
  have two:∀ {H4:Hp},HO (q+3) (q+1) (q+4) H3 H4→(∀ {i:Nat} {x:Option O},i<q+9→i≠q+3→i≠q+1→i≠q+4→G[i]? = x→H4[i]? = x)∧HX (kpq q) (q+7) (q+5) (q+6) (q+8) 9999 0 ⟨[],[]⟩ H4:=fun {H4} ho=>by
    have at4:∀ {i:Nat} {x:Option O},i<q+9→i≠q+3→i≠q+1→i≠q+4→G[i]? = x→H4[i]? = x:=fun hi h1 h2 h3 h=>(ho.off _ (Nat.lt_of_lt_of_le hi l3) h1 h2 h3).trans (at3 hi h)
    exact⟨at4,at4 (by exact Nat.not_le.mp (lin [_] (.c 1 (.a (.v 0) (.n 9)) (.a (.v 0) (.n 7)) .z) rfl)) (by exact Nat.ne_of_gt (Nat.not_le.mp (lin [_] (.c 1 (.a (.v 0) (.n 7)) (.a (.v 0) (.n 3)) .z) rfl))) (by exact Nat.ne_of_gt (Nat.not_le.mp (lin [_] (.c 1 (.a (.v 0) (.n 7)) (.a (.v 0) (.n 1)) .z) rfl))) (by exact Nat.ne_of_gt (Nat.not_le.mp (lin [_] (.c 1 (.a (.v 0) (.n 7)) (.a (.v 0) (.n 4)) .z) rfl))) g.ho2,at4 (by exact Nat.not_le.mp (lin [_] (.c 1 (.a (.v 0) (.n 9)) (.a (.v 0) (.n 5)) .z) rfl)) (by exact Nat.ne_of_gt (Nat.not_le.mp (lin [_] (.c 1 (.a (.v 0) (.n 5)) (.a (.v 0) (.n 3)) .z) rfl))) (by exact Nat.ne_of_gt (Nat.not_le.mp (lin [_] (.c 1 (.a (.v 0) (.n 5)) (.a (.v 0) (.n 1)) .z) rfl))) (by exact Nat.ne_of_gt (Nat.not_le.mp (lin [_] (.c 1 (.a (.v 0) (.n 5)) (.a (.v 0) (.n 4)) .z) rfl))) g.va2,at4 (by exact Nat.not_le.mp (lin [_] (.c 1 (.a (.v 0) (.n 9)) (.a (.v 0) (.n 8)) .z) rfl)) (by exact Nat.ne_of_gt (Nat.not_le.mp (lin [_] (.c 1 (.a (.v 0) (.n 8)) (.a (.v 0) (.n 3)) .z) rfl))) (by exact Nat.ne_of_gt (Nat.not_le.mp (lin [_] (.c 1 (.a (.v 0) (.n 8)) (.a (.v 0) (.n 1)) .z) rfl))) (by exact Nat.ne_of_gt (Nat.not_le.mp (lin [_] (.c 1 (.a (.v 0) (.n 8)) (.a (.v 0) (.n 4)) .z) rfl))) g.lg2,at4 (by exact Nat.not_le.mp (lin [_] (.c 1 (.a (.v 0) (.n 9)) (.a (.v 0) (.n 6)) .z) rfl)) (by exact Nat.ne_of_gt (Nat.not_le.mp (lin [_] (.c 1 (.a (.v 0) (.n 6)) (.a (.v 0) (.n 3)) .z) rfl))) (by exact Nat.ne_of_gt (Nat.not_le.mp (lin [_] (.c 1 (.a (.v 0) (.n 6)) (.a (.v 0) (.n 1)) .z) rfl))) (by exact Nat.ne_of_gt (Nat.not_le.mp (lin [_] (.c 1 (.a (.v 0) (.n 6)) (.a (.v 0) (.n 4)) .z) rfl))) g.rf2,fun r key h=>by obtain⟨rfl,rfl⟩:=kpq_inv h; exact at4 (by exact Nat.not_le.mp (lin [_] (.c 1 (.a (.v 0) (.n 9)) (.v 0) .z) rfl)) (by exact Nat.ne_of_lt (Nat.not_le.mp (lin [_] (.c 1 (.a (.v 0) (.n 3)) (.v 0) .z) rfl))) (by exact Nat.ne_of_lt (Nat.not_le.mp (lin [_] (.c 1 (.a (.v 0) (.n 1)) (.v 0) .z) rfl))) (by exact Nat.ne_of_lt (Nat.not_le.mp (lin [_] (.c 1 (.a (.v 0) (.n 4)) (.v 0) .z) rfl))) g.ref,by exact Nat.ne_of_lt (Nat.not_le.mp (lin [_] (.c 1 (.a (.v 0) (.n 8)) (.a (.v 0) (.n 6)) .z) rfl))⟩
  have fin:∀ {v:V} {H4:Hp},callF P1 98 58 [.loc r,.str s,.bool true,.loc (q+3)] H3=some (v,H4)→callF P1 99 59 [nV (n1 q),.str s,.bool true,.loc (q+3)] G=some (v,H4):=fun e4=>call_ret rfl rfl (s_stop (s_ret0 (r_call r_glob (r_cons (r_call r_glob (r_cons (r_loc rfl) r_nil) hc) (r_cons (r_loc rfl) (r_cons (r_loc rfl) (r_cons (r_loc rfl) r_nil)))) e4)))
  have t:=trial_ok (kp:=kpq q) (q:=q) (s:=s) kpq_q hs
  cases code_ok (kp:=kpq q) (q:=q) (s:=s) kpq_q hs with
  | non h hk T =>
    obtain⟨v,H4,e4,_,ho,rr⟩:=orders_ok (own:=Mine.L1.fnsL) (d:=89) (fun t H=>comp1 t H) rg x1 hr (by exact Nat.ne_of_gt (Nat.not_le.mp (lin [_,_] (.c 1 (.a (.v 0) (.n 9)) (.v 1) (.c 1 (.v 1) (.a (.v 0) (.n 4)) .z)) rfl lo))) T (by omega) (Nat.zero_le _) kd0
    cases rr
    obtain⟨_,x2⟩:=two ho
    cases t with
    | met h'=>rw [h] at h'; cases h'
    | non _ hk2 T2 =>
      obtain⟨v2,H5,e5,_,_,rr2⟩:=match_plain_ok (own:=Mine.L1.fnsL) (d:=90) (gx hs) x2 T2 (by omega) (Nat.zero_le _) kd0
      cases rr2
      exact .non H4 H5 h (fin e4) e5
  | @met e τ k' h hv hk T =>
    obtain⟨v,H4,e4,y1,ho,rr⟩:=orders_ok (own:=Mine.L1.fnsL) (d:=89) (fun t H=>comp1 t H) rg x1 hr (by exact Nat.ne_of_gt (Nat.not_le.mp (lin [_,_] (.c 1 (.a (.v 0) (.n 9)) (.v 1) (.c 1 (.v 1) (.a (.v 0) (.n 4)) .z)) rfl lo))) T (by omega) (Nat.zero_le _) kd0
    obtain⟨j,rfl,hj,lj⟩:=rr
    obtain⟨_,x2⟩:=two ho
    cases t with
    | non h'=>rw [h] at h'; cases h'
    | @met e2 τ2 k2 h' hv2 hk2 T2 =>
      have:e2=e:=by rw [h] at h'; exact(Option.some.inj h').symm
      subst this
      obtain⟨v2,H5,e5,y2,ho5,rr2⟩:=match_plain_ok (own:=Mine.L1.fnsL) (d:=90) (gx hs) x2 T2 (by omega) (Nat.zero_le _) kd0
      obtain⟨j2,rfl,hj2,_⟩:=rr2
      have l4:=ho.len
      have q1:=y1.vals
      have q2:=y2.vals
      rw [hv] at q1
      rw [hv2] at q2
      exact .met H4 H5 e2 j j2 _ _ h (fin e4) e5 ((ho5.off j (lt_get hj) (by exact Nat.ne_of_gt (Nat.not_le.mp (lin [_,_,_] (.c 1 (.a (.v 0) (.n 9)) (.v 1) (.c 1 (.v 1) (.v 2) (.c 1 (.v 2) (.a (.v 0) (.n 7)) .z))) rfl l3 lj))) (by exact Nat.ne_of_gt (Nat.not_le.mp (lin [_,_,_] (.c 1 (.a (.v 0) (.n 9)) (.v 1) (.c 1 (.v 1) (.v 2) (.c 1 (.v 2) (.a (.v 0) (.n 5)) .z))) rfl l3 lj))) (by exact Nat.ne_of_gt (Nat.not_le.mp (lin [_,_,_] (.c 1 (.a (.v 0) (.n 9)) (.v 1) (.c 1 (.v 1) (.v 2) (.c 1 (.v 2) (.a (.v 0) (.n 8)) .z))) rfl l3 lj)))).trans hj) hj2 ((ho5.off _ (by exact Nat.not_le.mp (lin [_,_,_] (.c 1 (.a (.v 0) (.n 9)) (.v 1) (.c 1 (.v 1) (.v 2) (.c 1 (.v 2) (.a (.v 0) (.n 3)) .z))) rfl l3 l4)) (by exact Nat.ne_of_lt (Nat.not_le.mp (lin [_] (.c 1 (.a (.v 0) (.n 7)) (.a (.v 0) (.n 3)) .z) rfl))) (by exact Nat.ne_of_lt (Nat.not_le.mp (lin [_] (.c 1 (.a (.v 0) (.n 5)) (.a (.v 0) (.n 3)) .z) rfl))) (by exact Nat.ne_of_lt (Nat.not_le.mp (lin [_] (.c 1 (.a (.v 0) (.n 8)) (.a (.v 0) (.n 3)) .z) rfl)))).trans y1.host) ((ho5.off _ (by exact Nat.not_le.mp (lin [_,_,_] (.c 1 (.a (.v 0) (.n 9)) (.v 1) (.c 1 (.v 1) (.v 2) (.c 1 (.v 2) (.a (.v 0) (.n 1)) .z))) rfl l3 l4)) (by exact Nat.ne_of_lt (Nat.not_le.mp (lin [_] (.c 1 (.a (.v 0) (.n 7)) (.a (.v 0) (.n 1)) .z) rfl))) (by exact Nat.ne_of_lt (Nat.not_le.mp (lin [_] (.c 1 (.a (.v 0) (.n 5)) (.a (.v 0) (.n 1)) .z) rfl))) (by exact Nat.ne_of_lt (Nat.not_le.mp (lin [_] (.c 1 (.a (.v 0) (.n 8)) (.a (.v 0) (.n 1)) .z) rfl)))).trans q1) y2.host q2
end L1
namespace L1
section
variable {d:Nat} {H:Hp} {ns:List Int}
noncomputable abbrev y0:MS:=.asg (.loc 1) (.lst [(.slice (.loc 0) (.lit .none) (.lit (.int 30)) (.lit .none)),(.lit (.int 0))])
noncomputable abbrev y1:MS:=.asg (.tup [(.loc 2),(.loc 3)]) (.call (.glob (.fn 73)) [(.loc 1)])
noncomputable abbrev y2:MS:=.asg (.loc 4) (.tup [(.lit (.str [100,101,108,97,121])),(.tup [(.lit (.str [110,97,109,101])),(.lit (.str [87]))])])
noncomputable abbrev y3:MS:=.asg (.loc 5) (.tup [(.lit (.str [110,111,119])),(.tup [(.lit (.str [99,97,116])),(.tup [(.lit (.str [108,101,110])),(.lit (.int 2))]),(.tup [(.lit (.str [97,114,98]))])]),(.new 1 [(.lit (.str [118,97,114])),(.lit .none),(.lit (.str [87]))])])
noncomputable abbrev y4:MS:=.asg (.loc 6) (.tup [(.lit (.str [99,97,116])),(.loc 5),(.tup [(.lit (.str [99,97,116])),(.loc 4),(.tup [(.lit (.str [99,97,116])),(.tup [(.lit (.str [97,114,98,110,111])),(.loc 4)]),(.tup [(.lit (.str [114,112,111,115])),(.lit (.int 0))])])])])
noncomputable abbrev y5:MS:=.asg (.loc 7) (.call (.glob (.fn 74)) [(.loc 2)])
noncomputable abbrev y6:MS:=.ife (.and [(.loc 3),(.cmp .ne (.ife (.cmp .is (.loc 7) (.lit .none)) (.lit .none) (.prim .len [(.loc 7)])) (.call (.glob (.fn 75)) [(.prim .len [(.loc 2)])]))]) [(.ret (.lit (.bool false)))] []
noncomputable abbrev y7:MS:=.asg (.tup [(.loc 8),(.loc 9)]) (.tup [(.new 4 [(.dict []),(.lit (.int 9999)),(.lst [])]),(.new 4 [(.dict []),(.lit (.int 9999)),(.lst [])])])
noncomputable abbrev y8:MS:=.asg (.tup [(.loc 10),(.loc 11)]) (.tup [(.call (.glob (.fn 59)) [(.loc 6),(.loc 2),(.lit (.bool true)),(.loc 8)]),(.call (.glob (.fn 64)) [(.loc 6),(.loc 2),(.lit (.bool true)),(.loc 9)])])
noncomputable abbrev y9:MS:=.ife (.cmp .is (.loc 7) (.lit .none)) [(.ret (.and [(.cmp .is (.loc 10) (.lit .none)),(.cmp .is (.loc 11) (.lit .none))]))] []
noncomputable abbrev y10:MS:=.ife (.or [(.cmp .ne (.loc 10) (.tup [(.lit (.int 0)),(.prim .len [(.loc 2)]),(.lst [])])),(.cmp .ne (.loc 11) (.loc 10))]) [(.ret (.lit (.bool false)))] []
noncomputable abbrev y11:MS:=.ret (.and [(.cmp .eq (.attr (.loc 8) 9) (.dict [(.lit (.str [87])),(.loc 7)])),(.cmp .eq (.attr (.loc 9) 9) (.dict [(.lit (.str [87])),(.loc 7)]))])
theorem r_dict1 {P:Pg} {call:CallT} {k e:ME} {l:Lo} {H1 H2:Hp} {z:List Nat} {b:V} (h1:evE P call k l H=some (.str z,H1)) (h2:evE P call e l H1=some (b,H2)):evE P call (.dict [k,e]) l H=some (.loc H2.length,H2++[.dict [(z,b)]]):=by
  show bnd (evD P call [k,e] l H) _=_
  rw [evD,h1]
  show bnd (bnd (evE P call e l H1) _) _=_
  rw [h2]; rfl
theorem dat_f {n b a j:Nat} (hj:H[j]? = some (.list [])):dat H (n+2) (.tup [.int (b:Nat),.int (a:Nat),.loc j])=some (.tuple [.int b,.int a,.list []]):=by
  have h:dat H (n+1) (.loc j)=some (.list []):=(atL_at hj).trans rfl
  show(mapO (dat H (n+1)) [.int (b:Nat),.int (a:Nat),.loc j]).map PyData.tuple=_
  simp only [mapO,h]; rfl
theorem ne_f1 {b a j l:Nat} (hj:H[j]? = some (.list [])) (hl:H[l]? = some (.list [])):cmpV H .ne (.tup [.int (b:Nat),.int (a:Nat),.loc j]) (.tup [.int (b:Nat),.int (a:Nat),.loc l])=some false:=by
  show(eqD H _ _).map _=_
  unfold eqD
  rw [dat_f hj,dat_f hl]
  show some (!PyData.eqv _ _)=_
  have hi:∀ i:Int,PyData.eqv (.int i) (.int i)=true:=fun i=>by simp only [PyData.eqv,beq_self_eq_true]
  rw [PyData.eqv,PyData.eqvAll,PyData.eqvAll,PyData.eqvAll,PyData.eqvAll,hi,hi,PyData.eqv,PyData.eqvAll]; rfl
theorem eq_d1 {i j:Nat} {k t:List Nat} (hi:H[i]? = some (.dict [(k,.str t)])) (hj:H[j]? = some (.dict [(k,.str t)])):cmpV H .eq (.loc i) (.loc j)=some true:=by
  have h1:fastEq H (.loc i) (.loc j)=some (atD H j (eqDict [(k,.str t)])):=by
    show(match H[i]? with | some (.dict es)=>some (atD H j (eqDict es)) | _=>none)=_
    rw [hi]
  show eqV H (.loc i) (.loc j)=_
  unfold eqV
  rw [h1,atD_at hj]
  show(if k == k then some (t == t) else some false)=_
  rw [beq_self_eq_true,beq_self_eq_true]; rfl
theorem ne_int {i:Int}:cmpV H .ne (.int i) (.int i)=some false:=by
  show(eqD H (.int i) (.int i)).map (!·)=_
  show some (!PyData.eqv (.int i) (.int i))=_
  simp only [PyData.eqv,beq_self_eq_true]; rfl
theorem two_of {H:Hp} (h:H.length=2):∃ a b,H=[a,b]:=by
  match H,h with
  | [a,b],_=>exact⟨a,b,rfl⟩
theorem three_of {H:Hp} (h:H.length=3):∃ a b c,H=[a,b,c]:=by
  match H,h with
  | [a,b,c],_=>exact⟨a,b,c,rfl⟩
theorem stroke6 {s:List Nat} {n:Nat} (hn:n≤16) (hS:s=repL [49] n):exS P1 (callF P1 99) y6 [some (.ro (ns.map .int)),some (.loc 1),some (.str s),some (.bool true),some (nV nW),some (nV (.nw (.ca (.sg (.len 2)) .arb) 2)),some (nV (n1 2)),some (shV s),none,none,none,none] H=some (.next,[some (.ro (ns.map .int)),some (.loc 1),some (.str s),some (.bool true),some (nV nW),some (nV (.nw (.ca (.sg (.len 2)) .arb) 2)),some (nV (n1 2)),some (shV s),none,none,none,none],H):=by
  have hl:s.length=n:=by rw [hS,repL_len]; exact Nat.mul_one n
  have hs:s.length≤16:=hl▸hn
  have h:=strokes ⟨n,Nat.lt_succ_of_le hn⟩
  rw [← hS] at h
  have hp:prV s.length=match firstF (hit s) (s.length / 2 - 1) 2 with | some e=>.int (e:Nat) | none=>.none:=by
    unfold prV; rw [hl] at h ⊢; rw [h] <;> rfl
  unfold shV
  cases he:firstF (hit s) (s.length / 2 - 1) 2 with
  | none =>
    have hc:cmpV H .ne .none (prV s.length)=some false:=by rw [hp,he]; rfl
    exact(s_if_f (r_and (r_loc rfl) (r_and_f (r_cmp (r_ife_t (r_cmp (r_loc rfl) r_lit (by rfl)) r_lit) (r_call r_glob (r_cons (r_prim (r_cons (r_loc rfl) r_nil) (by rfl)) r_nil) (prime_ok hs)) hc))) s_nil0)
  | some e =>
    have hb:=first_le _ _ he
    have hc:cmpV H .ne (.int ((s.take e).length:Nat)) (prV s.length)=some false:=by
      rw [hp,he,show(s.take e).length=e by rw [List.length_take]; omega]; exact ne_int
    exact(s_if_f (r_and (r_loc rfl) (r_and_f (r_cmp (r_ife_f (r_cmp (r_loc rfl) r_lit (by rfl)) (r_prim (r_cons (r_loc rfl) r_nil) (by rfl))) (r_call r_glob (r_cons (r_prim (r_cons (r_loc rfl) r_nil) (by rfl)) r_nil) (prime_ok hs)) hc))) s_nil0)
theorem fin_one {s:List Nat} (hs:s.length≤16) (a b:O) (hp:∀ {H:Hp},exS P1 (callF P1 99) y6 [some (.ro (ns.map .int)),some (.loc 1),some (.str s),some (.bool true),some (nV nW),some (nV (.nw (.ca (.sg (.len 2)) .arb) 2)),some (nV (n1 2)),some (shV s),none,none,none,none] H=some (.next,[some (.ro (ns.map .int)),some (.loc 1),some (.str s),some (.bool true),some (nV nW),some (nV (.nw (.ca (.sg (.len 2)) .arb) 2)),some (nV (n1 2)),some (shV s),none,none,none,none],H)):∃ H':Lo×Hp,exB P1 (callF P1 99) [y2,y3,y4,y5,y6,y7,y8,y9,y10,y11] [some (.ro (ns.map .int)),some (.loc 1),some (.str s),some (.bool true),none,none,none,none,none,none,none,none] [a,b] = some (.ret (.bool true),H'.1,H'.2):=by
  have q2:exS P1 (callF P1 99) y2 [some (.ro (ns.map .int)),some (.loc 1),some (.str s),some (.bool true),none,none,none,none,none,none,none,none] [a,b] = some (.next,[some (.ro (ns.map .int)),some (.loc 1),some (.str s),some (.bool true),some (nV nW),none,none,none,none,none,none,none],[a,b]):=by kernel_rfl
  have q3:exS P1 (callF P1 99) y3 [some (.ro (ns.map .int)),some (.loc 1),some (.str s),some (.bool true),some (nV nW),none,none,none,none,none,none,none] [a,b] = some (.next,[some (.ro (ns.map .int)),some (.loc 1),some (.str s),some (.bool true),some (nV nW),some (nV (.nw (.ca (.sg (.len 2)) .arb) 2)),none,none,none,none,none,none],[a,b,refW]):=by kernel_rfl
  have q4:exS P1 (callF P1 99) y4 [some (.ro (ns.map .int)),some (.loc 1),some (.str s),some (.bool true),some (nV nW),some (nV (.nw (.ca (.sg (.len 2)) .arb) 2)),none,none,none,none,none,none] [a,b,refW] = some (.next,[some (.ro (ns.map .int)),some (.loc 1),some (.str s),some (.bool true),some (nV nW),some (nV (.nw (.ca (.sg (.len 2)) .arb) 2)),some (nV (n1 2)),none,none,none,none,none],[a,b,refW]):=by kernel_rfl
  have q5:exS P1 (callF P1 99) y5 [some (.ro (ns.map .int)),some (.loc 1),some (.str s),some (.bool true),some (nV nW),some (nV (.nw (.ca (.sg (.len 2)) .arb) 2)),some (nV (n1 2)),none,none,none,none,none] [a,b,refW] = some (.next,[some (.ro (ns.map .int)),some (.loc 1),some (.str s),some (.bool true),some (nV nW),some (nV (.nw (.ca (.sg (.len 2)) .arb) 2)),some (nV (n1 2)),some (shV s),none,none,none,none],[a,b,refW]):=(s_asg0 (r_call r_glob (r_cons (r_loc rfl) r_nil) (short_ok hs)) t_loc0)
  have q6:exS P1 (callF P1 99) y6 [some (.ro (ns.map .int)),some (.loc 1),some (.str s),some (.bool true),some (nV nW),some (nV (.nw (.ca (.sg (.len 2)) .arb) 2)),some (nV (n1 2)),some (shV s),none,none,none,none] [a,b,refW] = some (.next,[some (.ro (ns.map .int)),some (.loc 1),some (.str s),some (.bool true),some (nV nW),some (nV (.nw (.ca (.sg (.len 2)) .arb) 2)),some (nV (n1 2)),some (shV s),none,none,none,none],[a,b,refW]):=hp
  have q7:exS P1 (callF P1 99) y7 [some (.ro (ns.map .int)),some (.loc 1),some (.str s),some (.bool true),some (nV nW),some (nV (.nw (.ca (.sg (.len 2)) .arb) 2)),some (nV (n1 2)),some (shV s),none,none,none,none] [a,b,refW] = some (.next,[some (.ro (ns.map .int)),some (.loc 1),some (.str s),some (.bool true),some (nV nW),some (nV (.nw (.ca (.sg (.len 2)) .arb) 2)),some (nV (n1 2)),some (shV s),some (.loc 5),some (.loc 9),none,none],[a,b,refW,.dict [],.list [],hostO (.loc 3) (.loc 4) (.loc 6) 9999 (0:Nat),.list [],.dict [],.list [],hostO (.loc 7) (.loc 8) (.loc 10) 9999 (0:Nat),.list []]):=by kernel_rfl
  have r:=runs (q:=2) hs (G:=[a,b,refW,.dict [],.list [],hostO (.loc 3) (.loc 4) (.loc 6) 9999 (0:Nat),.list [],.dict [],.list [],hostO (.loc 7) (.loc 8) (.loc 10) 9999 (0:Nat),.list []]) ⟨rfl,rfl,rfl,rfl,rfl,rfl,rfl,rfl,rfl,rfl⟩ (cp_of (r:=44) (ls:=[]) rfl (compA (d:=89) a b _ _ _ _ _ _ _ _) (by decide))
  have hsh:=out_hit hs
  cases r with
  | non H4 H5 h e4 e5 =>
    have hd:shV s=.none:=by unfold shV; rw [← hsh,h]
    have q8:exS P1 (callF P1 99) y8 [some (.ro (ns.map .int)),some (.loc 1),some (.str s),some (.bool true),some (nV nW),some (nV (.nw (.ca (.sg (.len 2)) .arb) 2)),some (nV (n1 2)),some (shV s),some (.loc 5),some (.loc 9),none,none] [a,b,refW,.dict [],.list [],hostO (.loc 3) (.loc 4) (.loc 6) 9999 (0:Nat),.list [],.dict [],.list [],hostO (.loc 7) (.loc 8) (.loc 10) 9999 (0:Nat),.list []] = some (.next,[some (.ro (ns.map .int)),some (.loc 1),some (.str s),some (.bool true),some (nV nW),some (nV (.nw (.ca (.sg (.len 2)) .arb) 2)),some (nV (n1 2)),some (shV s),some (.loc 5),some (.loc 9),some (.none),some (.none)],H5):=(s_asg0 (r_tup (r_cons (r_call r_glob (r_cons (r_loc rfl) (r_cons (r_loc rfl) (r_cons r_lit (r_cons (r_loc rfl) r_nil)))) e4) (r_cons (r_call r_glob (r_cons (r_loc rfl) (r_cons (r_loc rfl) (r_cons r_lit (r_cons (r_loc rfl) r_nil)))) e5) r_nil))) (t_tup0 (by rfl) (t_cons0 t_loc0 (t_cons0 t_loc0 t_nil0))))
    rw [hd] at q5 q6 q7 q8
    exact⟨⟨_,_⟩,s_seq q2 (s_seq q3 (s_seq q4 (s_seq q5 (s_seq q6 (s_seq q7 (s_seq q8 (s_stop (s_if_t (r_cmp (r_loc rfl) r_lit (by rfl)) (s_stop (s_ret0 (r_and (r_cmp (r_loc rfl) r_lit (by rfl)) (r_and (r_cmp (r_loc rfl) r_lit (by rfl)) r_and0))))))))))))⟩
  | met H4 H5 e j j2 fs fs2 h e4 e5 hj hj2 hh hv hh2 hv2 =>
    have hd:shV s=.str (s.take e):=by unfold shV; rw [← hsh,h]
    have q8:exS P1 (callF P1 99) y8 [some (.ro (ns.map .int)),some (.loc 1),some (.str s),some (.bool true),some (nV nW),some (nV (.nw (.ca (.sg (.len 2)) .arb) 2)),some (nV (n1 2)),some (shV s),some (.loc 5),some (.loc 9),none,none] [a,b,refW,.dict [],.list [],hostO (.loc 3) (.loc 4) (.loc 6) 9999 (0:Nat),.list [],.dict [],.list [],hostO (.loc 7) (.loc 8) (.loc 10) 9999 (0:Nat),.list []] = some (.next,[some (.ro (ns.map .int)),some (.loc 1),some (.str s),some (.bool true),some (nV nW),some (nV (.nw (.ca (.sg (.len 2)) .arb) 2)),some (nV (n1 2)),some (shV s),some (.loc 5),some (.loc 9),some (.tup [.int (0:Nat),.int (s.length:Nat),.loc j]),some (.tup [.int (0:Nat),.int (s.length:Nat),.loc j2])],H5):=(s_asg0 (r_tup (r_cons (r_call r_glob (r_cons (r_loc rfl) (r_cons (r_loc rfl) (r_cons r_lit (r_cons (r_loc rfl) r_nil)))) e4) (r_cons (r_call r_glob (r_cons (r_loc rfl) (r_cons (r_loc rfl) (r_cons r_lit (r_cons (r_loc rfl) r_nil)))) e5) r_nil))) (t_tup0 (by rfl) (t_cons0 t_loc0 (t_cons0 t_loc0 t_nil0))))
    rw [hd] at q5 q6 q7 q8
    have hh8:=app_in (y:=[O.list []]) hh
    have hh9:=app_in (y:=[O.dict [(kW,.str (s.take e))]]) (app_in (y:=[O.list []]) hh2)
    have hv8:=app_in (y:=[O.dict [(kW,.str (s.take e))]]) (app_in (y:=[O.list []]) hv)
    have hv9:=app_in (y:=[O.dict [(kW,.str (s.take e))]]) (app_in (y:=[O.dict [(kW,.str (s.take e))]]) (app_in (y:=[O.list []]) hv2))
    exact⟨⟨_,_⟩,s_seq q2 (s_seq q3 (s_seq q4 (s_seq q5 (s_seq q6 (s_seq q7 (s_seq q8 (s_seq (s_if_f (r_cmp (r_loc rfl) r_lit (by rfl)) s_nil0) (s_seq (s_if_f (r_or (r_cmp (r_loc rfl) (r_tup (r_cons r_lit (r_cons (r_prim (r_cons (r_loc rfl) r_nil) (by rfl)) (r_cons (r_lst r_nil) r_nil)))) (by exact ne_f1 (app_in hj) app_new)) (r_or (r_cmp (r_loc rfl) (r_loc rfl) (by exact ne_f1 (app_in hj2) (app_in hj))) r_or0)) s_nil0) (s_stop (s_ret0 (r_and (r_cmp (r_attr (r_loc rfl) (by exact g_inst hh8 rfl)) (r_dict1 r_lit (r_loc rfl)) (by exact eq_d1 hv8 app_new)) (r_and (r_cmp (r_attr (r_loc rfl) (by exact g_inst hh9 rfl)) (r_dict1 r_lit (r_loc rfl)) (by exact eq_d1 hv9 app_new)) r_and0))))))))))))⟩
theorem fin_two {s:List Nat} (hs:s.length≤16) (a b c:O):∃ H':Lo×Hp,exB P1 (callF P1 99) [y2,y3,y4,y5,y6,y7,y8,y9,y10,y11] [some (.ro (ns.map .int)),some (.loc 1),some (.str s),some (.bool false),none,none,none,none,none,none,none,none] [a,b,c] = some (.ret (.bool true),H'.1,H'.2):=by
  have q2:exS P1 (callF P1 99) y2 [some (.ro (ns.map .int)),some (.loc 1),some (.str s),some (.bool false),none,none,none,none,none,none,none,none] [a,b,c] = some (.next,[some (.ro (ns.map .int)),some (.loc 1),some (.str s),some (.bool false),some (nV nW),none,none,none,none,none,none,none],[a,b,c]):=by kernel_rfl
  have q3:exS P1 (callF P1 99) y3 [some (.ro (ns.map .int)),some (.loc 1),some (.str s),some (.bool false),some (nV nW),none,none,none,none,none,none,none] [a,b,c] = some (.next,[some (.ro (ns.map .int)),some (.loc 1),some (.str s),some (.bool false),some (nV nW),some (nV (.nw (.ca (.sg (.len 2)) .arb) 3)),none,none,none,none,none,none],[a,b,c,refW]):=by kernel_rfl
  have q4:exS P1 (callF P1 99) y4 [some (.ro (ns.map .int)),some (.loc 1),some (.str s),some (.bool false),some (nV nW),some (nV (.nw (.ca (.sg (.len 2)) .arb) 3)),none,none,none,none,none,none] [a,b,c,refW] = some (.next,[some (.ro (ns.map .int)),some (.loc 1),some (.str s),some (.bool false),some (nV nW),some (nV (.nw (.ca (.sg (.len 2)) .arb) 3)),some (nV (n1 3)),none,none,none,none,none],[a,b,c,refW]):=by kernel_rfl
  have q5:exS P1 (callF P1 99) y5 [some (.ro (ns.map .int)),some (.loc 1),some (.str s),some (.bool false),some (nV nW),some (nV (.nw (.ca (.sg (.len 2)) .arb) 3)),some (nV (n1 3)),none,none,none,none,none] [a,b,c,refW] = some (.next,[some (.ro (ns.map .int)),some (.loc 1),some (.str s),some (.bool false),some (nV nW),some (nV (.nw (.ca (.sg (.len 2)) .arb) 3)),some (nV (n1 3)),some (shV s),none,none,none,none],[a,b,c,refW]):=(s_asg0 (r_call r_glob (r_cons (r_loc rfl) r_nil) (short_ok hs)) t_loc0)
  have q6:exS P1 (callF P1 99) y6 [some (.ro (ns.map .int)),some (.loc 1),some (.str s),some (.bool false),some (nV nW),some (nV (.nw (.ca (.sg (.len 2)) .arb) 3)),some (nV (n1 3)),some (shV s),none,none,none,none] [a,b,c,refW] = some (.next,[some (.ro (ns.map .int)),some (.loc 1),some (.str s),some (.bool false),some (nV nW),some (nV (.nw (.ca (.sg (.len 2)) .arb) 3)),some (nV (n1 3)),some (shV s),none,none,none,none],[a,b,c,refW]):=((s_if_f (r_and_f (r_loc rfl)) s_nil0))
  have q7:exS P1 (callF P1 99) y7 [some (.ro (ns.map .int)),some (.loc 1),some (.str s),some (.bool false),some (nV nW),some (nV (.nw (.ca (.sg (.len 2)) .arb) 3)),some (nV (n1 3)),some (shV s),none,none,none,none] [a,b,c,refW] = some (.next,[some (.ro (ns.map .int)),some (.loc 1),some (.str s),some (.bool false),some (nV nW),some (nV (.nw (.ca (.sg (.len 2)) .arb) 3)),some (nV (n1 3)),some (shV s),some (.loc 6),some (.loc 10),none,none],[a,b,c,refW,.dict [],.list [],hostO (.loc 4) (.loc 5) (.loc 7) 9999 (0:Nat),.list [],.dict [],.list [],hostO (.loc 8) (.loc 9) (.loc 11) 9999 (0:Nat),.list []]):=by kernel_rfl
  have r:=runs (q:=3) hs (G:=[a,b,c,refW,.dict [],.list [],hostO (.loc 4) (.loc 5) (.loc 7) 9999 (0:Nat),.list [],.dict [],.list [],hostO (.loc 8) (.loc 9) (.loc 11) 9999 (0:Nat),.list []]) ⟨rfl,rfl,rfl,rfl,rfl,rfl,rfl,rfl,rfl,rfl⟩ (cp_of (r:=45) (ls:=[]) rfl (compB (d:=89) a b c _ _ _ _ _ _ _ _) (by decide))
  have hsh:=out_hit hs
  cases r with
  | non H4 H5 h e4 e5 =>
    have hd:shV s=.none:=by unfold shV; rw [← hsh,h]
    have q8:exS P1 (callF P1 99) y8 [some (.ro (ns.map .int)),some (.loc 1),some (.str s),some (.bool false),some (nV nW),some (nV (.nw (.ca (.sg (.len 2)) .arb) 3)),some (nV (n1 3)),some (shV s),some (.loc 6),some (.loc 10),none,none] [a,b,c,refW,.dict [],.list [],hostO (.loc 4) (.loc 5) (.loc 7) 9999 (0:Nat),.list [],.dict [],.list [],hostO (.loc 8) (.loc 9) (.loc 11) 9999 (0:Nat),.list []] = some (.next,[some (.ro (ns.map .int)),some (.loc 1),some (.str s),some (.bool false),some (nV nW),some (nV (.nw (.ca (.sg (.len 2)) .arb) 3)),some (nV (n1 3)),some (shV s),some (.loc 6),some (.loc 10),some (.none),some (.none)],H5):=(s_asg0 (r_tup (r_cons (r_call r_glob (r_cons (r_loc rfl) (r_cons (r_loc rfl) (r_cons r_lit (r_cons (r_loc rfl) r_nil)))) e4) (r_cons (r_call r_glob (r_cons (r_loc rfl) (r_cons (r_loc rfl) (r_cons r_lit (r_cons (r_loc rfl) r_nil)))) e5) r_nil))) (t_tup0 (by rfl) (t_cons0 t_loc0 (t_cons0 t_loc0 t_nil0))))
    rw [hd] at q5 q6 q7 q8
    exact⟨⟨_,_⟩,s_seq q2 (s_seq q3 (s_seq q4 (s_seq q5 (s_seq q6 (s_seq q7 (s_seq q8 (s_stop (s_if_t (r_cmp (r_loc rfl) r_lit (by rfl)) (s_stop (s_ret0 (r_and (r_cmp (r_loc rfl) r_lit (by rfl)) (r_and (r_cmp (r_loc rfl) r_lit (by rfl)) r_and0))))))))))))⟩
  | met H4 H5 e j j2 fs fs2 h e4 e5 hj hj2 hh hv hh2 hv2 =>
    have hd:shV s=.str (s.take e):=by unfold shV; rw [← hsh,h]
    have q8:exS P1 (callF P1 99) y8 [some (.ro (ns.map .int)),some (.loc 1),some (.str s),some (.bool false),some (nV nW),some (nV (.nw (.ca (.sg (.len 2)) .arb) 3)),some (nV (n1 3)),some (shV s),some (.loc 6),some (.loc 10),none,none] [a,b,c,refW,.dict [],.list [],hostO (.loc 4) (.loc 5) (.loc 7) 9999 (0:Nat),.list [],.dict [],.list [],hostO (.loc 8) (.loc 9) (.loc 11) 9999 (0:Nat),.list []] = some (.next,[some (.ro (ns.map .int)),some (.loc 1),some (.str s),some (.bool false),some (nV nW),some (nV (.nw (.ca (.sg (.len 2)) .arb) 3)),some (nV (n1 3)),some (shV s),some (.loc 6),some (.loc 10),some (.tup [.int (0:Nat),.int (s.length:Nat),.loc j]),some (.tup [.int (0:Nat),.int (s.length:Nat),.loc j2])],H5):=(s_asg0 (r_tup (r_cons (r_call r_glob (r_cons (r_loc rfl) (r_cons (r_loc rfl) (r_cons r_lit (r_cons (r_loc rfl) r_nil)))) e4) (r_cons (r_call r_glob (r_cons (r_loc rfl) (r_cons (r_loc rfl) (r_cons r_lit (r_cons (r_loc rfl) r_nil)))) e5) r_nil))) (t_tup0 (by rfl) (t_cons0 t_loc0 (t_cons0 t_loc0 t_nil0))))
    rw [hd] at q5 q6 q7 q8
    have hh8:=app_in (y:=[O.list []]) hh
    have hh9:=app_in (y:=[O.dict [(kW,.str (s.take e))]]) (app_in (y:=[O.list []]) hh2)
    have hv8:=app_in (y:=[O.dict [(kW,.str (s.take e))]]) (app_in (y:=[O.list []]) hv)
    have hv9:=app_in (y:=[O.dict [(kW,.str (s.take e))]]) (app_in (y:=[O.dict [(kW,.str (s.take e))]]) (app_in (y:=[O.list []]) hv2))
    exact⟨⟨_,_⟩,s_seq q2 (s_seq q3 (s_seq q4 (s_seq q5 (s_seq q6 (s_seq q7 (s_seq q8 (s_seq (s_if_f (r_cmp (r_loc rfl) r_lit (by rfl)) s_nil0) (s_seq (s_if_f (r_or (r_cmp (r_loc rfl) (r_tup (r_cons r_lit (r_cons (r_prim (r_cons (r_loc rfl) r_nil) (by rfl)) (r_cons (r_lst r_nil) r_nil)))) (by exact ne_f1 (app_in hj) app_new)) (r_or (r_cmp (r_loc rfl) (r_loc rfl) (by exact ne_f1 (app_in hj2) (app_in hj))) r_or0)) s_nil0) (s_stop (s_ret0 (r_and (r_cmp (r_attr (r_loc rfl) (by exact g_inst hh8 rfl)) (r_dict1 r_lit (r_loc rfl)) (by exact eq_d1 hv8 app_new)) (r_and (r_cmp (r_attr (r_loc rfl) (by exact g_inst hh9 rfl)) (r_dict1 r_lit (r_loc rfl)) (by exact eq_d1 hv9 app_new)) r_and0))))))))))))⟩
theorem law_ok (hn:ns.length≤63):∃ H',callF P1 100 76 [.ro (ns.map .int)] [] = some (.bool true,H'):=by
  have hc:(ns.map V.int).take 30=(ns.take 30).map .int:=List.map_take.symm
  have f0:Fd ((ns.map V.int).take 30) 0 ([]++[O.list ((ns.map V.int).take 30)]++[O.list [V.loc 0,V.int 0]]):=⟨rfl,rfl⟩
  have q0:exS P1 (callF P1 99) y0 [some (.ro (ns.map .int)),none,none,none,none,none,none,none,none,none,none,none] [] = some (.next,[some (.ro (ns.map .int)),some (.loc 1),none,none,none,none,none,none,none,none,none,none],([]++[O.list ((ns.map V.int).take 30)]++[O.list [V.loc 0,V.int 0]])):=(s_asg0 (r_lst (r_cons (r_slice (r_loc rfl) r_lit r_lit r_lit (by rfl)) (r_cons r_lit r_nil))) t_loc0)
  cases subject_ok (d:=97) hc f0 with
  | one n t H1 hn e1 f l =>
    have q1:exS P1 (callF P1 99) y1 [some (.ro (ns.map .int)),some (.loc 1),none,none,none,none,none,none,none,none,none,none] ([]++[O.list ((ns.map V.int).take 30)]++[O.list [V.loc 0,V.int 0]])=some (.next,[some (.ro (ns.map .int)),some (.loc 1),some (.str (repL [49] n)),some (.bool true),none,none,none,none,none,none,none,none],H1):=(s_asg0 (r_call r_glob (r_cons (r_loc rfl) r_nil) e1) (t_tup0 (by rfl) (t_cons0 t_loc0 (t_cons0 t_loc0 t_nil0))))
    obtain⟨a,b,rfl⟩:=two_of l
    obtain⟨⟨l',H'⟩,e⟩:=fin_one (ns:=ns) (s:=repL [49] n) (by rw [repL_len]; exact(Nat.mul_one n).symm▸hn) a b (stroke6 hn rfl)
    exact⟨H',call_ret rfl rfl (s_seq q0 (s_seq q1 e))⟩
  | two s t H1 hn e1 f l =>
    have q1:exS P1 (callF P1 99) y1 [some (.ro (ns.map .int)),some (.loc 1),none,none,none,none,none,none,none,none,none,none] ([]++[O.list ((ns.map V.int).take 30)]++[O.list [V.loc 0,V.int 0]])=some (.next,[some (.ro (ns.map .int)),some (.loc 1),some (.str s),some (.bool false),none,none,none,none,none,none,none,none],H1):=(s_asg0 (r_call r_glob (r_cons (r_loc rfl) r_nil) e1) (t_tup0 (by rfl) (t_cons0 t_loc0 (t_cons0 t_loc0 t_nil0))))
    obtain⟨a,b,c,rfl⟩:=three_of l
    obtain⟨⟨l',H'⟩,e⟩:=fin_two (ns:=ns) (s:=s) hn a b c
    exact⟨H',call_ret rfl rfl (s_seq q0 (s_seq q1 e))⟩
end
end L1
end Mine.Q
set_option maxRecDepth 100000
namespace Mine
namespace HD
noncomputable abbrev PW:Program:=PySem.Challenge.rw_sa0605_01.row.toRowW.1
noncomputable def bd:List Stmt:=PW.main.body
noncomputable def st (k:Nat):Stmt:=bd.getD k default
noncomputable def cB:Stmt→List Stmt | .ClassDef _ _ _ b _ _ _ _ _ _ _=>b | _=>[]
noncomputable def sc (k j:Nat):Stmt:=(cB (st k)).getD j default
noncomputable def fdA:Stmt→Arguments | .FunctionDef _ a _ _ _ _ _ _ _ _=>a | _=>default
noncomputable def fdB:Stmt→List Stmt | .FunctionDef _ _ b _ _ _ _ _ _ _=>b | _=>[]
noncomputable def fdS:Stmt→Scope | .FunctionDef _ _ _ _ _ _ s _ _ _=>s | _=>default
noncomputable abbrev S (x:String):Str:=Str.ofString x
noncomputable abbrev s (x:String) (n:Nat):Value:=.str (S x) n
noncomputable abbrev r (n:Nat):Value:=.ref n
noncomputable abbrev i (n k:Nat):Value:=.int (.ofNat n) k
noncomputable abbrev KH:=PyData.keyHash
noncomputable abbrev E (P:Params) (x:String) (n:Nat) (v:Value):DictEntry:=⟨PyData.keyHash P (S x),.str (S x) n,v⟩
noncomputable abbrev N:=BT.node
noncomputable abbrev z:=BT.nil
noncomputable abbrev N0:Value:=.none
noncomputable abbrev vi (n k:Nat):Value:=.int (.ofNat n) k
noncomputable abbrev VT:=Value.type
noncomputable abbrev VB:=Value.builtin
noncomputable abbrev TU:Value:=.type "tuple"
noncomputable abbrev j (k:Nat):Value:=vi k 0
noncomputable abbrev j0:Value:=vi 0 0
noncomputable abbrev u (n:Nat):Value:=s "/claim/cut.py" n
noncomputable abbrev bt:Value:=.bool true
noncomputable abbrev bf:Value:=.bool false
noncomputable abbrev ldr:Value:=VB "__main__.__loader__#opaque"
noncomputable abbrev fl (t:Value) (l:List Value):Obj:=⟨t,none,.fields ⟨l⟩,⟨[]⟩⟩
noncomputable abbrev sq (l:List Value):Obj:=⟨TU,none,.seq ⟨l⟩ 0,⟨[]⟩⟩
noncomputable abbrev di (l:List DictEntry) (n:Nat):Obj:=⟨VT "dict",none,.dict ⟨l⟩ n,⟨[]⟩⟩
noncomputable abbrev f0 (a b:String) (x:Stmt):Obj:=⟨N0,none,.func ⟨S a,S b,fdA x,.stmts (fdB x),fdS x,0,[],N0,N0,N0,N0,none,N0,N0,0⟩,⟨[]⟩⟩
noncomputable abbrev f1 (a b:String) (x:Stmt) (n:Nat) (m:Value) (k:Nat):Obj:=⟨VT "function",none,.func ⟨S a,S b,fdA x,.stmts (fdB x),fdS x,n,[],N0,N0,N0,m,none,r k,N0,0⟩,⟨[]⟩⟩
noncomputable def alt:Bool→List Obj→List Obj
  | _,[]=>[]
  | true,a::r=>a::alt false r
  | false,_::r=>alt true r
noncomputable def mkT:Nat→List Obj→BT
  | 0,_=>z
  | _,[]=>z
  | n+1,a::r=>N a (mkT n (alt true r)) (mkT n (alt false r))
noncomputable def o43:Obj:=sq []
noncomputable def o44:Obj:=fl N0 []
noncomputable def o45:Obj:=fl (VT "code") [(s "<module>" 182),(s "<module>" 183),(u 184),(j 1),j0,j0,j0,j0,(r 11),bf,(j 181),(r 12),N0,N0,N0,N0,(j 185),(j 1),(u 186)]
noncomputable def o46:Obj:=⟨(VT "frame"),none,Data.plain,⟨[(some (r 13)),(some (r 3)),(some (r 3)),none,(some (s "__main__" 164)),none,(some (r 0))]⟩⟩
noncomputable def o49 (P:Params):Obj:=di [E P "__name__" 165 (s "snobol.compile_pattern" 187),E P "__doc__" 166 N0,E P "__package__" 167 N0,E P "__loader__" 168 ldr,E P "__spec__" 169 N0,E P "__annotations__" 170 (r 6),E P "__builtins__" 171 (r 4),E P "__file__" 173 (u 172),E P "__cached__" 174 N0,E P "ONE" 190 (s "one" 189),E P "WAYS" 192 (s "ways" 191),E P "SPLIT" 194 (s "split" 193),E P "JUMP" 196 (s "jump" 195),E P "MARK" 198 (s "mark" 197),E P "NAME" 200 (s "name" 199),E P "SET" 202 (s "set" 201),E P "GAIN" 204 (s "gain" 203),E P "PLACE" 206 (s "place" 205),E P "ASK" 208 (s "ask" 207),E P "FENCE" 210 (s "fence" 209),E P "FAIL" 212 (s "fail" 211),E P "ABORT" 214 (s "abort" 213),E P "SUCCEED" 216 (s "succeed" 215),E P "DONE" 218 (s "done" 217),E P "PUT" 220 (s "put" 219),E P "EMIT" 222 (s "emit" 221),E P "OPEN" 224 (s "open" 223),E P "SHUT" 226 (s "shut" 225),E P "MEET" 228 (s "meet" 227),E P "SINGLE" 240 (r 15),E P "ALONE" 245 (r 16),E P "row_of" 256 (r 23),E P "is_plain_text" 263 (r 30),E P "with_texts_joined" 272 (r 37)] 34
noncomputable def o50:Obj:=fl N0 [(j 24),j0,(r 22),(j 33),j0,(r 29),(j 35),j0,(r 36)]
noncomputable def o51:Obj:=sq [(s "chars" 229),(s "len" 230),(s "pos" 231),(s "rpos" 232),(s "tab" 233),(s "rtab" 234),(s "any" 235),(s "notany" 236),(s "span" 237),(s "break" 238),(s "rem" 239)]
noncomputable def o52:Obj:=sq [(s "fence" 241),(s "fail" 242),(s "abort" 243),(s "succeed" 244)]
noncomputable def o55:Obj:=sq [(s "node" 249),(s "kind" 250),(s "found" 251),(s "waiting" 252),(s "part" 253)]
noncomputable def o57:Obj:=f0 "row_of" "row_of" (st 23)
noncomputable def o58:Obj:=fl (VT "code") [(s "row_of" 246),(s "row_of" 247),(u 248),(j 24),(j 2),j0,j0,(j 3),(r 17),bt,(j 181),(r 18),N0,(r 19),(r 20),(r 21),(j 254),(j 24),(u 255)]
noncomputable def o59:Obj:=f1 "row_of" "row_of" (st 23) 3 (s "snobol.compile_pattern" 187) 22
noncomputable def o62:Obj:=sq [(s "node" 260)]
noncomputable def o64:Obj:=f0 "is_plain_text" "is_plain_text" (st 24)
noncomputable def o65:Obj:=fl (VT "code") [(s "is_plain_text" 257),(s "is_plain_text" 258),(u 259),(j 33),(j 1),j0,j0,(j 3),(r 24),bt,(j 181),(r 25),N0,(r 26),(r 27),(r 28),(j 261),(j 33),(u 262)]
noncomputable def o66:Obj:=f1 "is_plain_text" "is_plain_text" (st 24) 3 (s "snobol.compile_pattern" 187) 29
noncomputable def o69:Obj:=sq [(s "parts" 267),(s "found" 268),(s "part" 269)]
noncomputable def o71:Obj:=f0 "with_texts_joined" "with_texts_joined" (st 25)
noncomputable def o72:Obj:=fl (VT "code") [(s "with_texts_joined" 264),(s "with_texts_joined" 265),(u 266),(j 35),(j 1),j0,j0,(j 3),(r 31),bt,(j 181),(r 32),N0,(r 33),(r 34),(r 35),(j 270),(j 35),(u 271)]
noncomputable def o73:Obj:=f1 "with_texts_joined" "with_texts_joined" (st 25) 3 (s "snobol.compile_pattern" 187) 36
noncomputable def o74 (P:Params):Obj:=di [E P "__name__" 165 (s "snobol.compile_pattern" 187),E P "__doc__" 166 N0,E P "__package__" 167 N0,E P "__loader__" 168 ldr,E P "__spec__" 169 N0,E P "__annotations__" 170 (r 6),E P "__builtins__" 171 (r 4),E P "__file__" 173 (u 172),E P "__cached__" 174 N0,E P "ONE" 190 (s "one" 189),E P "WAYS" 192 (s "ways" 191),E P "SPLIT" 194 (s "split" 193),E P "JUMP" 196 (s "jump" 195),E P "MARK" 198 (s "mark" 197),E P "NAME" 200 (s "name" 199),E P "SET" 202 (s "set" 201),E P "GAIN" 204 (s "gain" 203),E P "PLACE" 206 (s "place" 205),E P "ASK" 208 (s "ask" 207),E P "FENCE" 210 (s "fence" 209),E P "FAIL" 212 (s "fail" 211),E P "ABORT" 214 (s "abort" 213),E P "SUCCEED" 216 (s "succeed" 215),E P "DONE" 218 (s "done" 217),E P "PUT" 220 (s "put" 219),E P "EMIT" 222 (s "emit" 221),E P "OPEN" 224 (s "open" 223),E P "SHUT" 226 (s "shut" 225),E P "MEET" 228 (s "meet" 227),E P "SINGLE" 240 (r 15),E P "ALONE" 245 (r 16),E P "row_of" 256 (r 23),E P "is_plain_text" 263 (r 30),E P "with_texts_joined" 272 (r 37),E P "PatternCode" 356 (r 94)] 35
noncomputable def o75:Obj:=fl N0 [(j 24),j0,(r 22),(j 33),j0,(r 29),(j 35),j0,(r 36),(j 45),j0,(r 43)]
noncomputable def o77:Obj:=fl (VT "builtin_function_or_method") [(VB "type.__prepare__"),(VT "type")]
noncomputable def o78 (P:Params):Obj:=di [E P "__module__" 280 (s "snobol.compile_pattern" 187),E P "__qualname__" 282 (s "PatternCode" 281),E P "__firstlineno__" 284 (vi 45 283),E P "__init__" 291 (r 51),E P "emit" 299 (r 58),E P "put" 310 (r 65),E P "begun" 316 (r 70),E P "choice" 327 (r 77),E P "repeat" 337 (r 84),E P "bound" 347 (r 91),E P "__static_attributes__" 349 (r 92)] 11
noncomputable def o80:Obj:=fl N0 [(j 47),(j 4),(r 50),(j 50),(j 4),(r 57),(j 54),(j 4),(r 64),(j 65),(j 4),(r 69),(j 84),(j 4),(r 76),(j 90),(j 4),(r 83),(j 97),(j 4),(r 90)]
noncomputable def o81:Obj:=fl (VT "code") [(s "PatternCode" 275),(s "PatternCode" 276),(u 277),(j 45),j0,j0,j0,j0,(r 41),bf,(j 181),(r 42),N0,N0,N0,N0,(j 278),(j 45),(u 279)]
noncomputable def o82:Obj:=⟨(VT "frame"),none,Data.plain,⟨[(some (r 43)),(some (r 3)),(some (r 40)),none,(some (s "snobol.compile_pattern" 187)),none,(some (r 0))]⟩⟩
noncomputable def o85:Obj:=sq [(s "self" 288)]
noncomputable def o87:Obj:=f0 "__init__" "PatternCode.__init__" (sc 26 0)
noncomputable def o88:Obj:=fl (VT "code") [(s "__init__" 285),(s "PatternCode.__init__" 286),(u 287),(j 47),(j 1),j0,j0,(j 3),(r 45),bt,(j 181),(r 46),N0,(r 47),(r 48),(r 49),(j 289),(j 47),(u 290)]
noncomputable def o89:Obj:=f1 "__init__" "PatternCode.__init__" (sc 26 0) 3 (s "snobol.compile_pattern" 187) 50
noncomputable def o92:Obj:=sq [(s "self" 295),(s "order" 296)]
noncomputable def o94:Obj:=f0 "emit" "PatternCode.emit" (sc 26 1)
noncomputable def o95:Obj:=fl (VT "code") [(s "emit" 292),(s "PatternCode.emit" 293),(u 294),(j 50),(j 2),j0,j0,(j 3),(r 52),bt,(j 181),(r 53),N0,(r 54),(r 55),(r 56),(j 297),(j 50),(u 298)]
noncomputable def o96:Obj:=f1 "emit" "PatternCode.emit" (sc 26 1) 3 (s "snobol.compile_pattern" 187) 57
noncomputable def o99:Obj:=sq [(s "self" 303),(s "node" 304),(s "waiting" 305),(s "word" 306),(s "told" 307)]
noncomputable def o101:Obj:=f0 "put" "PatternCode.put" (sc 26 2)
noncomputable def o102:Obj:=fl (VT "code") [(s "put" 300),(s "PatternCode.put" 301),(u 302),(j 54),(j 2),j0,j0,(j 3),(r 59),bt,(j 181),(r 60),N0,(r 61),(r 62),(r 63),(j 308),(j 54),(u 309)]
noncomputable def o103:Obj:=f1 "put" "PatternCode.put" (sc 26 2) 3 (s "snobol.compile_pattern" 187) 64
noncomputable def o106:Obj:=f0 "begun" "PatternCode.begun" (sc 26 3)
noncomputable def o107:Obj:=fl (VT "code") [(s "begun" 311),(s "PatternCode.begun" 312),(u 313),(j 65),(j 2),j0,j0,(j 3),(r 66),bt,(j 181),(r 67),N0,N0,N0,(r 68),(j 314),(j 65),(u 315)]
noncomputable def o108:Obj:=f1 "begun" "PatternCode.begun" (sc 26 3) 3 (s "snobol.compile_pattern" 187) 69
noncomputable def o111:Obj:=sq [(s "self" 320),(s "parts" 321),(s "found" 322),(s "ends" 323),(s "part" 324)]
noncomputable def o113:Obj:=f0 "choice" "PatternCode.choice" (sc 26 4)
noncomputable def o114:Obj:=fl (VT "code") [(s "choice" 317),(s "PatternCode.choice" 318),(u 319),(j 84),(j 2),j0,j0,(j 3),(r 71),bt,(j 181),(r 72),N0,(r 73),(r 74),(r 75),(j 325),(j 84),(u 326)]
noncomputable def o115:Obj:=f1 "choice" "PatternCode.choice" (sc 26 4) 3 (s "snobol.compile_pattern" 187) 76
noncomputable def o118:Obj:=sq [(s "self" 331),(s "node" 332),(s "split" 333),(s "leave" 334)]
noncomputable def o120:Obj:=f0 "repeat" "PatternCode.repeat" (sc 26 5)
noncomputable def o121:Obj:=fl (VT "code") [(s "repeat" 328),(s "PatternCode.repeat" 329),(u 330),(j 90),(j 2),j0,j0,(j 3),(r 78),bt,(j 181),(r 79),N0,(r 80),(r 81),(r 82),(j 335),(j 90),(u 336)]
noncomputable def o122:Obj:=f1 "repeat" "PatternCode.repeat" (sc 26 5) 3 (s "snobol.compile_pattern" 187) 83
noncomputable def o125:Obj:=sq [(s "self" 341),(s "word" 342),(s "ends" 343),(s "at" 344)]
noncomputable def o127:Obj:=f0 "bound" "PatternCode.bound" (sc 26 6)
noncomputable def o128:Obj:=fl (VT "code") [(s "bound" 338),(s "PatternCode.bound" 339),(u 340),(j 97),(j 3),j0,j0,(j 3),(r 85),bt,(j 181),(r 86),N0,(r 87),(r 88),(r 89),(j 345),(j 97),(u 346)]
noncomputable def o129:Obj:=f1 "bound" "PatternCode.bound" (sc 26 6) 3 (s "snobol.compile_pattern" 187) 90
noncomputable def o130:Obj:=sq [(s "orders" 348)]
noncomputable def o131 (P:Params):Obj:=di [E P "__module__" 280 (s "snobol.compile_pattern" 187),E P "__firstlineno__" 284 (vi 45 283),E P "__init__" 291 (r 51),E P "emit" 299 (r 58),E P "put" 310 (r 65),E P "begun" 316 (r 70),E P "choice" 327 (r 77),E P "repeat" 337 (r 84),E P "bound" 347 (r 91),E P "__static_attributes__" 349 (r 92),E P "__dict__" 351 (r 95),E P "__weakref__" 353 (r 96),E P "__doc__" 354 N0] 4
noncomputable def o132:Obj:=⟨(VT "type"),none,(.cls ⟨(S "PatternCode"),[(VT "object")],[(r 94),(VT "object")],93,(S "PatternCode"),true,[],[],false,none,false⟩),⟨[none,none,(some (s "PatternCode" 273)),(some (s "PatternCode" 281)),(some (VB "object.__new__")),(some bt)]⟩⟩
noncomputable def o133:Obj:=fl (VT "getset_descriptor") [(s "__dict__" 350),(r 94),(VB "function.__dict__"),(VB "function.__dict__#set")]
noncomputable def o134:Obj:=fl (VT "getset_descriptor") [(s "__weakref__" 352),(r 94),(VB "ExceptionGroup.__weakref__"),N0]
noncomputable def o135:Obj:=fl (VT "super") [(r 94),(r 94),(r 94)]
noncomputable def o136:Obj:=fl (VT "builtin_function_or_method") [(VB "object.__init_subclass__"),(r 94)]
noncomputable def o137 (P:Params):Obj:=⟨N0,none,(.dict ⟨[E P "type.__subclasses__.Exception.0" 407 (j 132),E P "type.__subclasses__.Exception.n" 408 (j 1)]⟩ 2),⟨[]⟩⟩
noncomputable def o138 (P:Params):Obj:=di [E P "__name__" 165 (s "snobol.values" 375),E P "__doc__" 166 N0,E P "__package__" 167 N0,E P "__loader__" 168 ldr,E P "__spec__" 169 N0,E P "__annotations__" 170 (r 6),E P "__builtins__" 171 (r 4),E P "__file__" 173 (u 172),E P "__cached__" 174 N0,E P "ONE" 190 (s "one" 189),E P "WAYS" 192 (s "ways" 191),E P "SPLIT" 194 (s "split" 193),E P "JUMP" 196 (s "jump" 195),E P "MARK" 198 (s "mark" 197),E P "NAME" 200 (s "name" 199),E P "SET" 202 (s "set" 201),E P "GAIN" 204 (s "gain" 203),E P "PLACE" 206 (s "place" 205),E P "ASK" 208 (s "ask" 207),E P "FENCE" 210 (s "fence" 209),E P "FAIL" 212 (s "fail" 211),E P "ABORT" 214 (s "abort" 213),E P "SUCCEED" 216 (s "succeed" 215),E P "DONE" 218 (s "done" 217),E P "PUT" 220 (s "put" 219),E P "EMIT" 222 (s "emit" 221),E P "OPEN" 224 (s "open" 223),E P "SHUT" 226 (s "shut" 225),E P "MEET" 228 (s "meet" 227),E P "SINGLE" 240 (r 15),E P "ALONE" 245 (r 16),E P "row_of" 256 (r 23),E P "is_plain_text" 263 (r 30),E P "with_texts_joined" 272 (r 37),E P "PatternCode" 356 (r 94),E P "straightened" 366 (r 105),E P "compile_pattern" 374 (r 112),E P "SnobolError" 410 (r 132)] 38
noncomputable def o139:Obj:=fl N0 [(j 24),j0,(r 22),(j 33),j0,(r 29),(j 35),j0,(r 36),(j 45),j0,(r 43),(j 106),j0,(r 104),(j 116),j0,(r 111),(j 122),j0,(r 119)]
noncomputable def o142:Obj:=sq [(s "orders" 360),(s "found" 361),(s "order" 362),(s "goal" 363)]
noncomputable def o144:Obj:=f0 "straightened" "straightened" (st 27)
noncomputable def o145:Obj:=fl (VT "code") [(s "straightened" 357),(s "straightened" 358),(u 359),(j 106),(j 1),j0,j0,(j 3),(r 99),bt,(j 181),(r 100),N0,(r 101),(r 102),(r 103),(j 364),(j 106),(u 365)]
noncomputable def o146:Obj:=f1 "straightened" "straightened" (st 27) 3 (s "snobol.compile_pattern" 187) 104
noncomputable def o149:Obj:=sq [(s "node" 370),(s "code" 371)]
noncomputable def o151:Obj:=f0 "compile_pattern" "compile_pattern" (st 28)
noncomputable def o152:Obj:=fl (VT "code") [(s "compile_pattern" 367),(s "compile_pattern" 368),(u 369),(j 116),(j 1),j0,j0,(j 3),(r 106),bt,(j 181),(r 107),N0,(r 108),(r 109),(r 110),(j 372),(j 116),(u 373)]
noncomputable def o153:Obj:=f1 "compile_pattern" "compile_pattern" (st 28) 3 (s "snobol.compile_pattern" 187) 111
noncomputable def o154:Obj:=sq [(VT "Exception")]
noncomputable def o156 (P:Params):Obj:=di [E P "__module__" 384 (s "snobol.values" 375),E P "__qualname__" 386 (s "SnobolError" 385),E P "__firstlineno__" 388 (vi 122 387),E P "__init__" 399 (r 129),E P "__static_attributes__" 402 (r 130),E P "__classcell__" 403 (r 116)] 6
noncomputable def o157:Obj:=⟨(VT "cell"),none,(.cell (some (r 132))),⟨[]⟩⟩
noncomputable def o159:Obj:=fl N0 [(j 124),(j 4),(r 128)]
noncomputable def o160:Obj:=fl (VT "code") [(s "SnobolError" 379),(s "SnobolError" 380),(u 381),(j 122),j0,j0,j0,j0,(r 117),bf,(j 181),(r 118),N0,N0,N0,N0,(j 382),(j 122),(u 383)]
noncomputable def o161:Obj:=⟨(VT "frame"),none,Data.plain,⟨[(some (r 119)),(some (r 3)),(some (r 115)),none,(some (s "snobol.values" 375)),none,(some (r 0))]⟩⟩
noncomputable def o162:Obj:=sq [(s "" 389)]
noncomputable def o163:Obj:=sq [(r 116)]
noncomputable def o164:Obj:=sq [(s "__class__" 393)]
noncomputable def o166:Obj:=sq [(s "self" 394),(s "number" 395),(s "told" 396)]
noncomputable def o168:Obj:=f0 "__init__" "SnobolError.__init__" (sc 30 0)
noncomputable def o169:Obj:=fl (VT "code") [(s "__init__" 390),(s "SnobolError.__init__" 391),(u 392),(j 124),(j 3),j0,j0,(j 3),(r 123),bt,(j 181),(r 124),N0,(r 125),(r 126),(r 127),(j 397),(j 124),(u 398)]
noncomputable def o170:Obj:=⟨(VT "function"),none,(.func ⟨(S "__init__"),(S "SnobolError.__init__"),fdA (sc 30 0),.stmts (fdB (sc 30 0)),fdS (sc 30 0),3,[((S "__class__"),116)],(r 121),N0,N0,(s "snobol.values" 375),none,(r 128),(r 122),0⟩),⟨[]⟩⟩
noncomputable def o171:Obj:=sq [(s "number" 400),(s "told" 401)]
noncomputable def o172 (P:Params):Obj:=di [E P "__module__" 384 (s "snobol.values" 375),E P "__firstlineno__" 388 (vi 122 387),E P "__init__" 399 (r 129),E P "__static_attributes__" 402 (r 130),E P "__weakref__" 405 (r 133),E P "__doc__" 406 N0] 4
noncomputable def o173:Obj:=⟨(VT "type"),none,(.cls ⟨(S "SnobolError"),[(VT "Exception")],[(r 132),(VT "Exception"),(VT "BaseException"),(VT "object")],131,(S "SnobolError"),true,[],[],false,none,false⟩),⟨[(some (r 113)),none,(some (s "SnobolError" 377)),(some (s "SnobolError" 385)),(some (VB "Exception.__new__")),(some bt)]⟩⟩
noncomputable def o174:Obj:=fl (VT "getset_descriptor") [(s "__weakref__" 404),(r 132),(VB "ExceptionGroup.__weakref__"),N0]
noncomputable def o175:Obj:=fl (VT "super") [(r 132),(r 132),(r 132)]
noncomputable def o176:Obj:=fl (VT "builtin_function_or_method") [(VB "object.__init_subclass__"),(r 132)]
noncomputable def o177 (P:Params):Obj:=di [E P "__name__" 165 (s "snobol.values" 375),E P "__doc__" 166 N0,E P "__package__" 167 N0,E P "__loader__" 168 ldr,E P "__spec__" 169 N0,E P "__annotations__" 170 (r 6),E P "__builtins__" 171 (r 4),E P "__file__" 173 (u 172),E P "__cached__" 174 N0,E P "ONE" 190 (s "one" 189),E P "WAYS" 192 (s "ways" 191),E P "SPLIT" 194 (s "split" 193),E P "JUMP" 196 (s "jump" 195),E P "MARK" 198 (s "mark" 197),E P "NAME" 200 (s "name" 199),E P "SET" 202 (s "set" 201),E P "GAIN" 204 (s "gain" 203),E P "PLACE" 206 (s "place" 205),E P "ASK" 208 (s "ask" 207),E P "FENCE" 210 (s "fence" 209),E P "FAIL" 212 (s "fail" 211),E P "ABORT" 214 (s "abort" 213),E P "SUCCEED" 216 (s "succeed" 215),E P "DONE" 218 (s "done" 217),E P "PUT" 220 (s "put" 219),E P "EMIT" 222 (s "emit" 221),E P "OPEN" 224 (s "open" 223),E P "SHUT" 226 (s "shut" 225),E P "MEET" 228 (s "meet" 227),E P "SINGLE" 240 (r 15),E P "ALONE" 245 (r 16),E P "row_of" 256 (r 23),E P "is_plain_text" 263 (r 30),E P "with_texts_joined" 272 (r 37),E P "PatternCode" 356 (r 94),E P "straightened" 366 (r 105),E P "compile_pattern" 374 (r 112),E P "SnobolError" 410 (r 132),E P "Failure" 430 (r 145)] 39
noncomputable def o178:Obj:=fl N0 [(j 24),j0,(r 22),(j 33),j0,(r 29),(j 35),j0,(r 36),(j 45),j0,(r 43),(j 106),j0,(r 104),(j 116),j0,(r 111),(j 122),j0,(r 119),(j 128),j0,(r 141)]
noncomputable def o181 (P:Params):Obj:=di [E P "__module__" 418 (s "snobol.values" 375),E P "__qualname__" 420 (s "Failure" 419),E P "__firstlineno__" 422 (vi 128 421),E P "__static_attributes__" 423 (r 143)] 4
noncomputable def o184:Obj:=fl (VT "code") [(s "Failure" 413),(s "Failure" 414),(u 415),(j 128),j0,j0,j0,j0,(r 139),bf,(j 181),(r 140),N0,N0,N0,N0,(j 416),(j 128),(u 417)]
noncomputable def o185:Obj:=⟨(VT "frame"),none,Data.plain,⟨[(some (r 141)),(some (r 3)),(some (r 138)),none,(some (s "snobol.values" 375)),none,(some (r 0))]⟩⟩
noncomputable def o187 (P:Params):Obj:=di [E P "__module__" 418 (s "snobol.values" 375),E P "__firstlineno__" 422 (vi 128 421),E P "__static_attributes__" 423 (r 143),E P "__dict__" 425 (r 146),E P "__weakref__" 427 (r 147),E P "__doc__" 428 N0] 4
noncomputable def o188:Obj:=⟨(VT "type"),none,(.cls ⟨(S "Failure"),[(VT "object")],[(r 145),(VT "object")],144,(S "Failure"),true,[],[],false,none,false⟩),⟨[none,none,(some (s "Failure" 411)),(some (s "Failure" 419)),(some (VB "object.__new__")),(some bt)]⟩⟩
noncomputable def o189:Obj:=fl (VT "getset_descriptor") [(s "__dict__" 424),(r 145),(VB "function.__dict__"),(VB "function.__dict__#set")]
noncomputable def o190:Obj:=fl (VT "getset_descriptor") [(s "__weakref__" 426),(r 145),(VB "ExceptionGroup.__weakref__"),N0]
noncomputable def o191:Obj:=fl (VT "super") [(r 145),(r 145),(r 145)]
noncomputable def o192:Obj:=fl (VT "builtin_function_or_method") [(VB "object.__init_subclass__"),(r 145)]
noncomputable def o193 (P:Params):Obj:=di [E P "__name__" 165 (s "snobol.values" 375),E P "__doc__" 166 N0,E P "__package__" 167 N0,E P "__loader__" 168 ldr,E P "__spec__" 169 N0,E P "__annotations__" 170 (r 6),E P "__builtins__" 171 (r 4),E P "__file__" 173 (u 172),E P "__cached__" 174 N0,E P "ONE" 190 (s "one" 189),E P "WAYS" 192 (s "ways" 191),E P "SPLIT" 194 (s "split" 193),E P "JUMP" 196 (s "jump" 195),E P "MARK" 198 (s "mark" 197),E P "NAME" 200 (s "name" 199),E P "SET" 202 (s "set" 201),E P "GAIN" 204 (s "gain" 203),E P "PLACE" 206 (s "place" 205),E P "ASK" 208 (s "ask" 207),E P "FENCE" 210 (s "fence" 209),E P "FAIL" 212 (s "fail" 211),E P "ABORT" 214 (s "abort" 213),E P "SUCCEED" 216 (s "succeed" 215),E P "DONE" 218 (s "done" 217),E P "PUT" 220 (s "put" 219),E P "EMIT" 222 (s "emit" 221),E P "OPEN" 224 (s "open" 223),E P "SHUT" 226 (s "shut" 225),E P "MEET" 228 (s "meet" 227),E P "SINGLE" 240 (r 15),E P "ALONE" 245 (r 16),E P "row_of" 256 (r 23),E P "is_plain_text" 263 (r 30),E P "with_texts_joined" 272 (r 37),E P "PatternCode" 356 (r 94),E P "straightened" 366 (r 105),E P "compile_pattern" 374 (r 112),E P "SnobolError" 410 (r 132),E P "Failure" 430 (r 145),E P "Pattern" 459 (r 166)] 40
noncomputable def o194:Obj:=fl N0 [(j 24),j0,(r 22),(j 33),j0,(r 29),(j 35),j0,(r 36),(j 45),j0,(r 43),(j 106),j0,(r 104),(j 116),j0,(r 111),(j 122),j0,(r 119),(j 128),j0,(r 141),(j 130),j0,(r 155)]
noncomputable def o197 (P:Params):Obj:=di [E P "__module__" 438 (s "snobol.values" 375),E P "__qualname__" 440 (s "Pattern" 439),E P "__firstlineno__" 442 (vi 130 441),E P "__init__" 450 (r 163),E P "__static_attributes__" 452 (r 164)] 5
noncomputable def o199:Obj:=fl N0 [(j 132),(j 4),(r 162)]
noncomputable def o200:Obj:=fl (VT "code") [(s "Pattern" 433),(s "Pattern" 434),(u 435),(j 130),j0,j0,j0,j0,(r 153),bf,(j 181),(r 154),N0,N0,N0,N0,(j 436),(j 130),(u 437)]
noncomputable def o201:Obj:=⟨(VT "frame"),none,Data.plain,⟨[(some (r 155)),(some (r 3)),(some (r 152)),none,(some (s "snobol.values" 375)),none,(some (r 0))]⟩⟩
noncomputable def o204:Obj:=sq [(s "self" 446),(s "node" 447)]
noncomputable def o206:Obj:=f0 "__init__" "Pattern.__init__" (sc 32 0)
noncomputable def o207:Obj:=fl (VT "code") [(s "__init__" 443),(s "Pattern.__init__" 444),(u 445),(j 132),(j 2),j0,j0,(j 3),(r 157),bt,(j 181),(r 158),N0,(r 159),(r 160),(r 161),(j 448),(j 132),(u 449)]
noncomputable def o208:Obj:=f1 "__init__" "Pattern.__init__" (sc 32 0) 3 (s "snobol.values" 375) 162
noncomputable def o209:Obj:=sq [(s "node" 451)]
noncomputable def o210 (P:Params):Obj:=di [E P "__module__" 438 (s "snobol.values" 375),E P "__firstlineno__" 442 (vi 130 441),E P "__init__" 450 (r 163),E P "__static_attributes__" 452 (r 164),E P "__dict__" 454 (r 167),E P "__weakref__" 456 (r 168),E P "__doc__" 457 N0] 4
noncomputable def o211:Obj:=⟨(VT "type"),none,(.cls ⟨(S "Pattern"),[(VT "object")],[(r 166),(VT "object")],165,(S "Pattern"),true,[],[],false,none,false⟩),⟨[none,none,(some (s "Pattern" 431)),(some (s "Pattern" 439)),(some (VB "object.__new__")),(some bt)]⟩⟩
noncomputable def o212:Obj:=fl (VT "getset_descriptor") [(s "__dict__" 453),(r 166),(VB "function.__dict__"),(VB "function.__dict__#set")]
noncomputable def o213:Obj:=fl (VT "getset_descriptor") [(s "__weakref__" 455),(r 166),(VB "ExceptionGroup.__weakref__"),N0]
noncomputable def o214:Obj:=fl (VT "super") [(r 166),(r 166),(r 166)]
noncomputable def o215:Obj:=fl (VT "builtin_function_or_method") [(VB "object.__init_subclass__"),(r 166)]
noncomputable def o216 (P:Params):Obj:=di [E P "__name__" 165 (s "snobol.values" 375),E P "__doc__" 166 N0,E P "__package__" 167 N0,E P "__loader__" 168 ldr,E P "__spec__" 169 N0,E P "__annotations__" 170 (r 6),E P "__builtins__" 171 (r 4),E P "__file__" 173 (u 172),E P "__cached__" 174 N0,E P "ONE" 190 (s "one" 189),E P "WAYS" 192 (s "ways" 191),E P "SPLIT" 194 (s "split" 193),E P "JUMP" 196 (s "jump" 195),E P "MARK" 198 (s "mark" 197),E P "NAME" 200 (s "name" 199),E P "SET" 202 (s "set" 201),E P "GAIN" 204 (s "gain" 203),E P "PLACE" 206 (s "place" 205),E P "ASK" 208 (s "ask" 207),E P "FENCE" 210 (s "fence" 209),E P "FAIL" 212 (s "fail" 211),E P "ABORT" 214 (s "abort" 213),E P "SUCCEED" 216 (s "succeed" 215),E P "DONE" 218 (s "done" 217),E P "PUT" 220 (s "put" 219),E P "EMIT" 222 (s "emit" 221),E P "OPEN" 224 (s "open" 223),E P "SHUT" 226 (s "shut" 225),E P "MEET" 228 (s "meet" 227),E P "SINGLE" 240 (r 15),E P "ALONE" 245 (r 16),E P "row_of" 256 (r 23),E P "is_plain_text" 263 (r 30),E P "with_texts_joined" 272 (r 37),E P "PatternCode" 356 (r 94),E P "straightened" 366 (r 105),E P "compile_pattern" 374 (r 112),E P "SnobolError" 410 (r 132),E P "Failure" 430 (r 145),E P "Pattern" 459 (r 166),E P "Delayed" 488 (r 187)] 41
noncomputable def o217:Obj:=fl N0 [(j 24),j0,(r 22),(j 33),j0,(r 29),(j 35),j0,(r 36),(j 45),j0,(r 43),(j 106),j0,(r 104),(j 116),j0,(r 111),(j 122),j0,(r 119),(j 128),j0,(r 141),(j 130),j0,(r 155),(j 134),j0,(r 176)]
noncomputable def o220 (P:Params):Obj:=di [E P "__module__" 467 (s "snobol.values" 375),E P "__qualname__" 469 (s "Delayed" 468),E P "__firstlineno__" 471 (vi 134 470),E P "__init__" 479 (r 184),E P "__static_attributes__" 481 (r 185)] 5
noncomputable def o222:Obj:=fl N0 [(j 136),(j 4),(r 183)]
noncomputable def o223:Obj:=fl (VT "code") [(s "Delayed" 462),(s "Delayed" 463),(u 464),(j 134),j0,j0,j0,j0,(r 174),bf,(j 181),(r 175),N0,N0,N0,N0,(j 465),(j 134),(u 466)]
noncomputable def o224:Obj:=⟨(VT "frame"),none,Data.plain,⟨[(some (r 176)),(some (r 3)),(some (r 173)),none,(some (s "snobol.values" 375)),none,(some (r 0))]⟩⟩
noncomputable def o227:Obj:=sq [(s "self" 475),(s "tree" 476)]
noncomputable def o229:Obj:=f0 "__init__" "Delayed.__init__" (sc 33 0)
noncomputable def o230:Obj:=fl (VT "code") [(s "__init__" 472),(s "Delayed.__init__" 473),(u 474),(j 136),(j 2),j0,j0,(j 3),(r 178),bt,(j 181),(r 179),N0,(r 180),(r 181),(r 182),(j 477),(j 136),(u 478)]
noncomputable def o231:Obj:=f1 "__init__" "Delayed.__init__" (sc 33 0) 3 (s "snobol.values" 375) 183
noncomputable def o232:Obj:=sq [(s "tree" 480)]
noncomputable def o233 (P:Params):Obj:=di [E P "__module__" 467 (s "snobol.values" 375),E P "__firstlineno__" 471 (vi 134 470),E P "__init__" 479 (r 184),E P "__static_attributes__" 481 (r 185),E P "__dict__" 483 (r 188),E P "__weakref__" 485 (r 189),E P "__doc__" 486 N0] 4
noncomputable def o234:Obj:=⟨(VT "type"),none,(.cls ⟨(S "Delayed"),[(VT "object")],[(r 187),(VT "object")],186,(S "Delayed"),true,[],[],false,none,false⟩),⟨[none,none,(some (s "Delayed" 460)),(some (s "Delayed" 468)),(some (VB "object.__new__")),(some bt)]⟩⟩
noncomputable def o235:Obj:=fl (VT "getset_descriptor") [(s "__dict__" 482),(r 187),(VB "function.__dict__"),(VB "function.__dict__#set")]
noncomputable def o236:Obj:=fl (VT "getset_descriptor") [(s "__weakref__" 484),(r 187),(VB "ExceptionGroup.__weakref__"),N0]
noncomputable def o237:Obj:=fl (VT "super") [(r 187),(r 187),(r 187)]
noncomputable def o238:Obj:=fl (VT "builtin_function_or_method") [(VB "object.__init_subclass__"),(r 187)]
noncomputable def o239 (P:Params):Obj:=di [E P "__name__" 165 (s "snobol.values" 375),E P "__doc__" 166 N0,E P "__package__" 167 N0,E P "__loader__" 168 ldr,E P "__spec__" 169 N0,E P "__annotations__" 170 (r 6),E P "__builtins__" 171 (r 4),E P "__file__" 173 (u 172),E P "__cached__" 174 N0,E P "ONE" 190 (s "one" 189),E P "WAYS" 192 (s "ways" 191),E P "SPLIT" 194 (s "split" 193),E P "JUMP" 196 (s "jump" 195),E P "MARK" 198 (s "mark" 197),E P "NAME" 200 (s "name" 199),E P "SET" 202 (s "set" 201),E P "GAIN" 204 (s "gain" 203),E P "PLACE" 206 (s "place" 205),E P "ASK" 208 (s "ask" 207),E P "FENCE" 210 (s "fence" 209),E P "FAIL" 212 (s "fail" 211),E P "ABORT" 214 (s "abort" 213),E P "SUCCEED" 216 (s "succeed" 215),E P "DONE" 218 (s "done" 217),E P "PUT" 220 (s "put" 219),E P "EMIT" 222 (s "emit" 221),E P "OPEN" 224 (s "open" 223),E P "SHUT" 226 (s "shut" 225),E P "MEET" 228 (s "meet" 227),E P "SINGLE" 240 (r 15),E P "ALONE" 245 (r 16),E P "row_of" 256 (r 23),E P "is_plain_text" 263 (r 30),E P "with_texts_joined" 272 (r 37),E P "PatternCode" 356 (r 94),E P "straightened" 366 (r 105),E P "compile_pattern" 374 (r 112),E P "SnobolError" 410 (r 132),E P "Failure" 430 (r 145),E P "Pattern" 459 (r 166),E P "Delayed" 488 (r 187),E P "NameRef" 521 (r 208),E P "is_fail" 528 (r 219),E P "fits" 536 (r 226),E P "whole_of_text" 547 (r 233),E P "text_of_whole" 556 (r 240),E P "to_whole" 564 (r 247)] 47
noncomputable def o240:Obj:=fl N0 [(j 24),j0,(r 22),(j 33),j0,(r 29),(j 35),j0,(r 36),(j 45),j0,(r 43),(j 106),j0,(r 104),(j 116),j0,(r 111),(j 122),j0,(r 119),(j 128),j0,(r 141),(j 130),j0,(r 155),(j 134),j0,(r 176),(j 138),j0,(r 197),(j 144),j0,(r 218),(j 146),j0,(r 225),(j 148),j0,(r 232),(j 161),j0,(r 239),(j 167),j0,(r 246)]
noncomputable def o243 (P:Params):Obj:=di [E P "__module__" 496 (s "snobol.values" 375),E P "__qualname__" 498 (s "NameRef" 497),E P "__firstlineno__" 500 (vi 138 499),E P "__init__" 510 (r 205),E P "__static_attributes__" 514 (r 206)] 5
noncomputable def o245:Obj:=fl N0 [(j 140),(j 4),(r 204)]
noncomputable def o246:Obj:=fl (VT "code") [(s "NameRef" 491),(s "NameRef" 492),(u 493),(j 138),j0,j0,j0,j0,(r 195),bf,(j 181),(r 196),N0,N0,N0,N0,(j 494),(j 138),(u 495)]
noncomputable def o247:Obj:=⟨(VT "frame"),none,Data.plain,⟨[(some (r 197)),(some (r 3)),(some (r 194)),none,(some (s "snobol.values" 375)),none,(some (r 0))]⟩⟩
noncomputable def o250:Obj:=sq [(s "self" 504),(s "kind" 505),(s "owner" 506),(s "key" 507)]
noncomputable def o252:Obj:=f0 "__init__" "NameRef.__init__" (sc 34 0)
noncomputable def o253:Obj:=fl (VT "code") [(s "__init__" 501),(s "NameRef.__init__" 502),(u 503),(j 140),(j 4),j0,j0,(j 3),(r 199),bt,(j 181),(r 200),N0,(r 201),(r 202),(r 203),(j 508),(j 140),(u 509)]
noncomputable def o254:Obj:=f1 "__init__" "NameRef.__init__" (sc 34 0) 3 (s "snobol.values" 375) 204
noncomputable def o255:Obj:=sq [(s "key" 511),(s "kind" 512),(s "owner" 513)]
noncomputable def o256 (P:Params):Obj:=di [E P "__module__" 496 (s "snobol.values" 375),E P "__firstlineno__" 500 (vi 138 499),E P "__init__" 510 (r 205),E P "__static_attributes__" 514 (r 206),E P "__dict__" 516 (r 209),E P "__weakref__" 518 (r 210),E P "__doc__" 519 N0] 4
noncomputable def o257:Obj:=⟨(VT "type"),none,(.cls ⟨(S "NameRef"),[(VT "object")],[(r 208),(VT "object")],207,(S "NameRef"),true,[],[],false,none,false⟩),⟨[none,none,(some (s "NameRef" 489)),(some (s "NameRef" 497)),(some (VB "object.__new__")),(some bt)]⟩⟩
noncomputable def o258:Obj:=fl (VT "getset_descriptor") [(s "__dict__" 515),(r 208),(VB "function.__dict__"),(VB "function.__dict__#set")]
noncomputable def o259:Obj:=fl (VT "getset_descriptor") [(s "__weakref__" 517),(r 208),(VB "ExceptionGroup.__weakref__"),N0]
noncomputable def o260:Obj:=fl (VT "super") [(r 208),(r 208),(r 208)]
noncomputable def o261:Obj:=fl (VT "builtin_function_or_method") [(VB "object.__init_subclass__"),(r 208)]
noncomputable def o264:Obj:=sq [(s "value" 525)]
noncomputable def o266:Obj:=f0 "is_fail" "is_fail" (st 35)
noncomputable def o267:Obj:=fl (VT "code") [(s "is_fail" 522),(s "is_fail" 523),(u 524),(j 144),(j 1),j0,j0,(j 3),(r 213),bt,(j 181),(r 214),N0,(r 215),(r 216),(r 217),(j 526),(j 144),(u 527)]
noncomputable def o268:Obj:=f1 "is_fail" "is_fail" (st 35) 3 (s "snobol.values" 375) 218
noncomputable def o271:Obj:=sq [(s "number" 532),(s "width" 533)]
noncomputable def o273:Obj:=f0 "fits" "fits" (st 36)
noncomputable def o274:Obj:=fl (VT "code") [(s "fits" 529),(s "fits" 530),(u 531),(j 146),(j 2),j0,j0,(j 3),(r 220),bt,(j 181),(r 221),N0,(r 222),(r 223),(r 224),(j 534),(j 146),(u 535)]
noncomputable def o275:Obj:=f1 "fits" "fits" (st 36) 3 (s "snobol.values" 375) 225
noncomputable def o278:Obj:=sq [(s "text" 540),(s "width" 541),(s "digits" 542),(s "number" 543),(s "sign" 544)]
noncomputable def o280:Obj:=f0 "whole_of_text" "whole_of_text" (st 37)
noncomputable def o281:Obj:=fl (VT "code") [(s "whole_of_text" 537),(s "whole_of_text" 538),(u 539),(j 148),(j 2),j0,j0,(j 3),(r 227),bt,(j 181),(r 228),N0,(r 229),(r 230),(r 231),(j 545),(j 148),(u 546)]
noncomputable def o282:Obj:=f1 "whole_of_text" "whole_of_text" (st 37) 3 (s "snobol.values" 375) 232
noncomputable def o285:Obj:=sq [(s "number" 551),(s "left" 552),(s "found" 553)]
noncomputable def o287:Obj:=f0 "text_of_whole" "text_of_whole" (st 38)
noncomputable def o288:Obj:=fl (VT "code") [(s "text_of_whole" 548),(s "text_of_whole" 549),(u 550),(j 161),(j 1),j0,j0,(j 3),(r 234),bt,(j 181),(r 235),N0,(r 236),(r 237),(r 238),(j 554),(j 161),(u 555)]
noncomputable def o289:Obj:=f1 "text_of_whole" "text_of_whole" (st 38) 3 (s "snobol.values" 375) 239
noncomputable def o292:Obj:=sq [(s "value" 560),(s "width" 561)]
noncomputable def o294:Obj:=f0 "to_whole" "to_whole" (st 39)
noncomputable def o295:Obj:=fl (VT "code") [(s "to_whole" 557),(s "to_whole" 558),(u 559),(j 167),(j 2),j0,j0,(j 3),(r 241),bt,(j 181),(r 242),N0,(r 243),(r 244),(r 245),(j 562),(j 167),(u 563)]
noncomputable def o296:Obj:=f1 "to_whole" "to_whole" (st 39) 3 (s "snobol.values" 375) 246
noncomputable def o297 (P:Params):Obj:=di [E P "__name__" 165 (s "snobol.primitives" 638),E P "__doc__" 166 N0,E P "__package__" 167 N0,E P "__loader__" 168 ldr,E P "__spec__" 169 N0,E P "__annotations__" 170 (r 6),E P "__builtins__" 171 (r 4),E P "__file__" 173 (u 172),E P "__cached__" 174 N0,E P "ONE" 190 (s "one" 189),E P "WAYS" 192 (s "ways" 191),E P "SPLIT" 194 (s "split" 193),E P "JUMP" 196 (s "jump" 195),E P "MARK" 198 (s "mark" 197),E P "NAME" 200 (s "name" 199),E P "SET" 202 (s "set" 201),E P "GAIN" 204 (s "gain" 203),E P "PLACE" 206 (s "place" 205),E P "ASK" 208 (s "ask" 207),E P "FENCE" 210 (s "fence" 209),E P "FAIL" 212 (s "fail" 211),E P "ABORT" 214 (s "abort" 213),E P "SUCCEED" 216 (s "succeed" 215),E P "DONE" 218 (s "done" 217),E P "PUT" 220 (s "put" 219),E P "EMIT" 222 (s "emit" 221),E P "OPEN" 224 (s "open" 223),E P "SHUT" 226 (s "shut" 225),E P "MEET" 228 (s "meet" 227),E P "SINGLE" 240 (r 15),E P "ALONE" 245 (r 16),E P "row_of" 256 (r 23),E P "is_plain_text" 263 (r 30),E P "with_texts_joined" 272 (r 37),E P "PatternCode" 356 (r 94),E P "straightened" 366 (r 105),E P "compile_pattern" 374 (r 112),E P "SnobolError" 410 (r 132),E P "Failure" 430 (r 145),E P "Pattern" 459 (r 166),E P "Delayed" 488 (r 187),E P "NameRef" 521 (r 208),E P "is_fail" 528 (r 219),E P "fits" 536 (r 226),E P "whole_of_text" 547 (r 233),E P "text_of_whole" 556 (r 240),E P "to_whole" 564 (r 247),E P "to_text" 571 (r 254),E P "need_text" 579 (r 261),E P "COUNTED" 587 (r 262),E P "SIGNED" 592 (r 263),E P "WIDTH_OF_COUNT" 594 (vi 64 593),E P "plain_count" 604 (r 271),E P "plain_signs" 613 (r 278),E P "pattern_of" 621 (r 285),E P "is_delayed" 628 (r 292),E P "settled" 637 (r 299),E P "OPENING" 641 (s "(" 640),E P "CLOSING" 643 (s ")" 642),E P "chars_end" 653 (r 306),E P "len_end" 662 (r 313),E P "pos_end" 670 (r 320)] 62
noncomputable def o298:Obj:=fl N0 [(j 24),j0,(r 22),(j 33),j0,(r 29),(j 35),j0,(r 36),(j 45),j0,(r 43),(j 106),j0,(r 104),(j 116),j0,(r 111),(j 122),j0,(r 119),(j 128),j0,(r 141),(j 130),j0,(r 155),(j 134),j0,(r 176),(j 138),j0,(r 197),(j 144),j0,(r 218),(j 146),j0,(r 225),(j 148),j0,(r 232),(j 161),j0,(r 239),(j 167),j0,(r 246),(j 171),j0,(r 253),(j 175),j0,(r 260),(j 184),j0,(r 270),(j 191),j0,(r 277),(j 196),j0,(r 284),(j 205),j0,(r 291),(j 207),j0,(r 298),(j 219),j0,(r 305),(j 222),j0,(r 312),(j 224),j0,(r 319)]
noncomputable def o301:Obj:=sq [(s "value" 568)]
noncomputable def o303:Obj:=f0 "to_text" "to_text" (st 40)
noncomputable def o304:Obj:=fl (VT "code") [(s "to_text" 565),(s "to_text" 566),(u 567),(j 171),(j 1),j0,j0,(j 3),(r 248),bt,(j 181),(r 249),N0,(r 250),(r 251),(r 252),(j 569),(j 171),(u 570)]
noncomputable def o305:Obj:=f1 "to_text" "to_text" (st 40) 3 (s "snobol.values" 375) 253
noncomputable def o308:Obj:=sq [(s "value" 575),(s "text" 576)]
noncomputable def o310:Obj:=f0 "need_text" "need_text" (st 41)
noncomputable def o311:Obj:=fl (VT "code") [(s "need_text" 572),(s "need_text" 573),(u 574),(j 175),(j 1),j0,j0,(j 3),(r 255),bt,(j 181),(r 256),N0,(r 257),(r 258),(r 259),(j 577),(j 175),(u 578)]
noncomputable def o312:Obj:=f1 "need_text" "need_text" (st 41) 3 (s "snobol.values" 375) 260
noncomputable def o313:Obj:=sq [(s "len" 582),(s "pos" 583),(s "rpos" 584),(s "tab" 585),(s "rtab" 586)]
noncomputable def o314:Obj:=sq [(s "any" 588),(s "notany" 589),(s "span" 590),(s "break" 591)]
noncomputable def o315:Obj:=sq [(vi 64 593)]
noncomputable def o318:Obj:=sq [(s "value" 598),(s "kind" 599),(s "width" 600),(s "count" 601)]
noncomputable def o320:Obj:=f0 "plain_count" "plain_count" (st 46)
noncomputable def o321:Obj:=fl (VT "code") [(s "plain_count" 595),(s "plain_count" 596),(u 597),(j 184),(j 3),j0,j0,(j 3),(r 265),bt,(j 181),(r 266),N0,(r 267),(r 268),(r 269),(j 602),(j 184),(u 603)]
noncomputable def o322:Obj:=⟨(VT "function"),none,(.func ⟨(S "plain_count"),(S "plain_count"),fdA (st 46),.stmts (fdB (st 46)),fdS (st 46),3,[],(r 264),N0,N0,(s "snobol.nodes" 580),none,(r 270),N0,0⟩),⟨[]⟩⟩
noncomputable def o325:Obj:=sq [(s "value" 608),(s "kind" 609),(s "text" 610)]
noncomputable def o327:Obj:=f0 "plain_signs" "plain_signs" (st 47)
noncomputable def o328:Obj:=fl (VT "code") [(s "plain_signs" 605),(s "plain_signs" 606),(u 607),(j 191),(j 2),j0,j0,(j 3),(r 272),bt,(j 181),(r 273),N0,(r 274),(r 275),(r 276),(j 611),(j 191),(u 612)]
noncomputable def o329:Obj:=f1 "plain_signs" "plain_signs" (st 47) 3 (s "snobol.nodes" 580) 277
noncomputable def o332:Obj:=sq [(s "value" 617),(s "text" 618)]
noncomputable def o334:Obj:=f0 "pattern_of" "pattern_of" (st 48)
noncomputable def o335:Obj:=fl (VT "code") [(s "pattern_of" 614),(s "pattern_of" 615),(u 616),(j 196),(j 1),j0,j0,(j 3),(r 279),bt,(j 181),(r 280),N0,(r 281),(r 282),(r 283),(j 619),(j 196),(u 620)]
noncomputable def o336:Obj:=f1 "pattern_of" "pattern_of" (st 48) 3 (s "snobol.nodes" 580) 284
noncomputable def o339:Obj:=sq [(s "told" 625)]
noncomputable def o341:Obj:=f0 "is_delayed" "is_delayed" (st 49)
noncomputable def o342:Obj:=fl (VT "code") [(s "is_delayed" 622),(s "is_delayed" 623),(u 624),(j 205),(j 1),j0,j0,(j 3),(r 286),bt,(j 181),(r 287),N0,(r 288),(r 289),(r 290),(j 626),(j 205),(u 627)]
noncomputable def o343:Obj:=f1 "is_delayed" "is_delayed" (st 49) 3 (s "snobol.nodes" 580) 291
noncomputable def o346:Obj:=sq [(s "node" 632),(s "host" 633),(s "value" 634)]
noncomputable def o348:Obj:=f0 "settled" "settled" (st 50)
noncomputable def o349:Obj:=fl (VT "code") [(s "settled" 629),(s "settled" 630),(u 631),(j 207),(j 2),j0,j0,(j 3),(r 293),bt,(j 181),(r 294),N0,(r 295),(r 296),(r 297),(j 635),(j 207),(u 636)]
noncomputable def o350:Obj:=f1 "settled" "settled" (st 50) 3 (s "snobol.nodes" 580) 298
noncomputable def o353:Obj:=sq [(s "subject" 647),(s "at" 648),(s "text" 649),(s "end" 650)]
noncomputable def o355:Obj:=f0 "chars_end" "chars_end" (st 54)
noncomputable def o356:Obj:=fl (VT "code") [(s "chars_end" 644),(s "chars_end" 645),(u 646),(j 219),(j 3),j0,j0,(j 3),(r 300),bt,(j 181),(r 301),N0,(r 302),(r 303),(r 304),(j 651),(j 219),(u 652)]
noncomputable def o357:Obj:=f1 "chars_end" "chars_end" (st 54) 3 (s "snobol.primitives" 638) 305
noncomputable def o360:Obj:=sq [(s "subject" 657),(s "at" 658),(s "many" 659)]
noncomputable def o362:Obj:=f0 "len_end" "len_end" (st 55)
noncomputable def o363:Obj:=fl (VT "code") [(s "len_end" 654),(s "len_end" 655),(u 656),(j 222),(j 3),j0,j0,(j 3),(r 307),bt,(j 181),(r 308),N0,(r 309),(r 310),(r 311),(j 660),(j 222),(u 661)]
noncomputable def o364:Obj:=f1 "len_end" "len_end" (st 55) 3 (s "snobol.primitives" 638) 312
noncomputable def o367:Obj:=sq [(s "at" 666),(s "place" 667)]
noncomputable def o369:Obj:=f0 "pos_end" "pos_end" (st 56)
noncomputable def o370:Obj:=fl (VT "code") [(s "pos_end" 663),(s "pos_end" 664),(u 665),(j 224),(j 2),j0,j0,(j 3),(r 314),bt,(j 181),(r 315),N0,(r 316),(r 317),(r 318),(j 668),(j 224),(u 669)]
noncomputable def o371:Obj:=f1 "pos_end" "pos_end" (st 56) 3 (s "snobol.primitives" 638) 319
noncomputable def o372 (P:Params):Obj:=di [E P "__name__" 165 (s "snobol.primitives" 638),E P "__doc__" 166 N0,E P "__package__" 167 N0,E P "__loader__" 168 ldr,E P "__spec__" 169 N0,E P "__annotations__" 170 (r 6),E P "__builtins__" 171 (r 4),E P "__file__" 173 (u 172),E P "__cached__" 174 N0,E P "ONE" 190 (s "one" 189),E P "WAYS" 192 (s "ways" 191),E P "SPLIT" 194 (s "split" 193),E P "JUMP" 196 (s "jump" 195),E P "MARK" 198 (s "mark" 197),E P "NAME" 200 (s "name" 199),E P "SET" 202 (s "set" 201),E P "GAIN" 204 (s "gain" 203),E P "PLACE" 206 (s "place" 205),E P "ASK" 208 (s "ask" 207),E P "FENCE" 210 (s "fence" 209),E P "FAIL" 212 (s "fail" 211),E P "ABORT" 214 (s "abort" 213),E P "SUCCEED" 216 (s "succeed" 215),E P "DONE" 218 (s "done" 217),E P "PUT" 220 (s "put" 219),E P "EMIT" 222 (s "emit" 221),E P "OPEN" 224 (s "open" 223),E P "SHUT" 226 (s "shut" 225),E P "MEET" 228 (s "meet" 227),E P "SINGLE" 240 (r 15),E P "ALONE" 245 (r 16),E P "row_of" 256 (r 23),E P "is_plain_text" 263 (r 30),E P "with_texts_joined" 272 (r 37),E P "PatternCode" 356 (r 94),E P "straightened" 366 (r 105),E P "compile_pattern" 374 (r 112),E P "SnobolError" 410 (r 132),E P "Failure" 430 (r 145),E P "Pattern" 459 (r 166),E P "Delayed" 488 (r 187),E P "NameRef" 521 (r 208),E P "is_fail" 528 (r 219),E P "fits" 536 (r 226),E P "whole_of_text" 547 (r 233),E P "text_of_whole" 556 (r 240),E P "to_whole" 564 (r 247),E P "to_text" 571 (r 254),E P "need_text" 579 (r 261),E P "COUNTED" 587 (r 262),E P "SIGNED" 592 (r 263),E P "WIDTH_OF_COUNT" 594 (vi 64 593),E P "plain_count" 604 (r 271),E P "plain_signs" 613 (r 278),E P "pattern_of" 621 (r 285),E P "is_delayed" 628 (r 292),E P "settled" 637 (r 299),E P "OPENING" 641 (s "(" 640),E P "CLOSING" 643 (s ")" 642),E P "chars_end" 653 (r 306),E P "len_end" 662 (r 313),E P "pos_end" 670 (r 320),E P "rpos_end" 679 (r 327),E P "tab_end" 688 (r 334),E P "rtab_end" 698 (r 341),E P "rem_end" 705 (r 348),E P "any_at" 714 (r 355),E P "notany_at" 723 (r 362),E P "run_end" 733 (r 369),E P "span_end" 743 (r 376),E P "break_end" 753 (r 383),E P "arb_ends" 761 (r 390),E P "bal_end" 770 (r 397),E P "bal_ends" 780 (r 404)] 74
noncomputable def o373:Obj:=fl N0 [(j 24),j0,(r 22),(j 33),j0,(r 29),(j 35),j0,(r 36),(j 45),j0,(r 43),(j 106),j0,(r 104),(j 116),j0,(r 111),(j 122),j0,(r 119),(j 128),j0,(r 141),(j 130),j0,(r 155),(j 134),j0,(r 176),(j 138),j0,(r 197),(j 144),j0,(r 218),(j 146),j0,(r 225),(j 148),j0,(r 232),(j 161),j0,(r 239),(j 167),j0,(r 246),(j 171),j0,(r 253),(j 175),j0,(r 260),(j 184),j0,(r 270),(j 191),j0,(r 277),(j 196),j0,(r 284),(j 205),j0,(r 291),(j 207),j0,(r 298),(j 219),j0,(r 305),(j 222),j0,(r 312),(j 224),j0,(r 319),(j 226),j0,(r 326),(j 228),j0,(r 333),(j 230),j0,(r 340),(j 233),j0,(r 347),(j 235),j0,(r 354),(j 237),j0,(r 361),(j 239),j0,(r 368),(j 243),j0,(r 375),(j 246),j0,(r 382),(j 249),j0,(r 389),(j 251),j0,(r 396),(j 264),j0,(r 403)]
noncomputable def o376:Obj:=sq [(s "subject" 674),(s "at" 675),(s "place" 676)]
noncomputable def o378:Obj:=f0 "rpos_end" "rpos_end" (st 57)
noncomputable def o379:Obj:=fl (VT "code") [(s "rpos_end" 671),(s "rpos_end" 672),(u 673),(j 226),(j 3),j0,j0,(j 3),(r 321),bt,(j 181),(r 322),N0,(r 323),(r 324),(r 325),(j 677),(j 226),(u 678)]
noncomputable def o380:Obj:=f1 "rpos_end" "rpos_end" (st 57) 3 (s "snobol.primitives" 638) 326
noncomputable def o383:Obj:=sq [(s "subject" 683),(s "at" 684),(s "place" 685)]
noncomputable def o385:Obj:=f0 "tab_end" "tab_end" (st 58)
noncomputable def o386:Obj:=fl (VT "code") [(s "tab_end" 680),(s "tab_end" 681),(u 682),(j 228),(j 3),j0,j0,(j 3),(r 328),bt,(j 181),(r 329),N0,(r 330),(r 331),(r 332),(j 686),(j 228),(u 687)]
noncomputable def o387:Obj:=f1 "tab_end" "tab_end" (st 58) 3 (s "snobol.primitives" 638) 333
noncomputable def o390:Obj:=sq [(s "subject" 692),(s "at" 693),(s "place" 694),(s "goal" 695)]
noncomputable def o392:Obj:=f0 "rtab_end" "rtab_end" (st 59)
noncomputable def o393:Obj:=fl (VT "code") [(s "rtab_end" 689),(s "rtab_end" 690),(u 691),(j 230),(j 3),j0,j0,(j 3),(r 335),bt,(j 181),(r 336),N0,(r 337),(r 338),(r 339),(j 696),(j 230),(u 697)]
noncomputable def o394:Obj:=f1 "rtab_end" "rtab_end" (st 59) 3 (s "snobol.primitives" 638) 340
noncomputable def o397:Obj:=sq [(s "subject" 702)]
noncomputable def o399:Obj:=f0 "rem_end" "rem_end" (st 60)
noncomputable def o400:Obj:=fl (VT "code") [(s "rem_end" 699),(s "rem_end" 700),(u 701),(j 233),(j 1),j0,j0,(j 3),(r 342),bt,(j 181),(r 343),N0,(r 344),(r 345),(r 346),(j 703),(j 233),(u 704)]
noncomputable def o401:Obj:=f1 "rem_end" "rem_end" (st 60) 3 (s "snobol.primitives" 638) 347
noncomputable def o404:Obj:=sq [(s "subject" 709),(s "at" 710),(s "signs" 711)]
noncomputable def o406:Obj:=f0 "any_at" "any_at" (st 61)
noncomputable def o407:Obj:=fl (VT "code") [(s "any_at" 706),(s "any_at" 707),(u 708),(j 235),(j 3),j0,j0,(j 3),(r 349),bt,(j 181),(r 350),N0,(r 351),(r 352),(r 353),(j 712),(j 235),(u 713)]
noncomputable def o408:Obj:=f1 "any_at" "any_at" (st 61) 3 (s "snobol.primitives" 638) 354
noncomputable def o411:Obj:=sq [(s "subject" 718),(s "at" 719),(s "signs" 720)]
noncomputable def o413:Obj:=f0 "notany_at" "notany_at" (st 62)
noncomputable def o414:Obj:=fl (VT "code") [(s "notany_at" 715),(s "notany_at" 716),(u 717),(j 237),(j 3),j0,j0,(j 3),(r 356),bt,(j 181),(r 357),N0,(r 358),(r 359),(r 360),(j 721),(j 237),(u 722)]
noncomputable def o415:Obj:=f1 "notany_at" "notany_at" (st 62) 3 (s "snobol.primitives" 638) 361
noncomputable def o418:Obj:=sq [(s "subject" 727),(s "at" 728),(s "signs" 729),(s "is_in" 730)]
noncomputable def o420:Obj:=f0 "run_end" "run_end" (st 63)
noncomputable def o421:Obj:=fl (VT "code") [(s "run_end" 724),(s "run_end" 725),(u 726),(j 239),(j 4),j0,j0,(j 3),(r 363),bt,(j 181),(r 364),N0,(r 365),(r 366),(r 367),(j 731),(j 239),(u 732)]
noncomputable def o422:Obj:=f1 "run_end" "run_end" (st 63) 3 (s "snobol.primitives" 638) 368
noncomputable def o425:Obj:=sq [(s "subject" 737),(s "at" 738),(s "signs" 739),(s "end" 740)]
noncomputable def o427:Obj:=f0 "span_end" "span_end" (st 64)
noncomputable def o428:Obj:=fl (VT "code") [(s "span_end" 734),(s "span_end" 735),(u 736),(j 243),(j 3),j0,j0,(j 3),(r 370),bt,(j 181),(r 371),N0,(r 372),(r 373),(r 374),(j 741),(j 243),(u 742)]
noncomputable def o429:Obj:=f1 "span_end" "span_end" (st 64) 3 (s "snobol.primitives" 638) 375
noncomputable def o432:Obj:=sq [(s "subject" 747),(s "at" 748),(s "signs" 749),(s "end" 750)]
noncomputable def o434:Obj:=f0 "break_end" "break_end" (st 65)
noncomputable def o435:Obj:=fl (VT "code") [(s "break_end" 744),(s "break_end" 745),(u 746),(j 246),(j 3),j0,j0,(j 3),(r 377),bt,(j 181),(r 378),N0,(r 379),(r 380),(r 381),(j 751),(j 246),(u 752)]
noncomputable def o436:Obj:=f1 "break_end" "break_end" (st 65) 3 (s "snobol.primitives" 638) 382
noncomputable def o439:Obj:=sq [(s "subject" 757),(s "at" 758)]
noncomputable def o441:Obj:=f0 "arb_ends" "arb_ends" (st 66)
noncomputable def o442:Obj:=fl (VT "code") [(s "arb_ends" 754),(s "arb_ends" 755),(u 756),(j 249),(j 2),j0,j0,(j 3),(r 384),bt,(j 181),(r 385),N0,(r 386),(r 387),(r 388),(j 759),(j 249),(u 760)]
noncomputable def o443:Obj:=f1 "arb_ends" "arb_ends" (st 66) 3 (s "snobol.primitives" 638) 389
noncomputable def o446:Obj:=sq [(s "subject" 765),(s "at" 766),(s "level" 767)]
noncomputable def o448:Obj:=f0 "bal_end" "bal_end" (st 67)
noncomputable def o449:Obj:=fl (VT "code") [(s "bal_end" 762),(s "bal_end" 763),(u 764),(j 251),(j 2),j0,j0,(j 3),(r 391),bt,(j 181),(r 392),N0,(r 393),(r 394),(r 395),(j 768),(j 251),(u 769)]
noncomputable def o450:Obj:=f1 "bal_end" "bal_end" (st 67) 3 (s "snobol.primitives" 638) 396
noncomputable def o453:Obj:=sq [(s "subject" 774),(s "at" 775),(s "found" 776),(s "end" 777)]
noncomputable def o455:Obj:=f0 "bal_ends" "bal_ends" (st 68)
noncomputable def o456:Obj:=fl (VT "code") [(s "bal_ends" 771),(s "bal_ends" 772),(u 773),(j 264),(j 2),j0,j0,(j 3),(r 398),bt,(j 181),(r 399),N0,(r 400),(r 401),(r 402),(j 778),(j 264),(u 779)]
noncomputable def o457:Obj:=f1 "bal_ends" "bal_ends" (st 68) 3 (s "snobol.primitives" 638) 403
noncomputable def o458 (P:Params):Obj:=di [E P "__name__" 165 (s "snobol.pattern_machine" 811),E P "__doc__" 166 N0,E P "__package__" 167 N0,E P "__loader__" 168 ldr,E P "__spec__" 169 N0,E P "__annotations__" 170 (r 6),E P "__builtins__" 171 (r 4),E P "__file__" 173 (u 172),E P "__cached__" 174 N0,E P "ONE" 190 (s "one" 189),E P "WAYS" 192 (s "ways" 191),E P "SPLIT" 194 (s "split" 193),E P "JUMP" 196 (s "jump" 195),E P "MARK" 198 (s "mark" 197),E P "NAME" 200 (s "name" 199),E P "SET" 202 (s "set" 201),E P "GAIN" 204 (s "gain" 203),E P "PLACE" 206 (s "place" 205),E P "ASK" 208 (s "ask" 207),E P "FENCE" 210 (s "fence" 209),E P "FAIL" 212 (s "fail" 211),E P "ABORT" 214 (s "abort" 213),E P "SUCCEED" 216 (s "succeed" 215),E P "DONE" 218 (s "done" 217),E P "PUT" 220 (s "put" 219),E P "EMIT" 222 (s "emit" 221),E P "OPEN" 224 (s "open" 223),E P "SHUT" 226 (s "shut" 225),E P "MEET" 228 (s "meet" 227),E P "SINGLE" 240 (r 15),E P "ALONE" 245 (r 16),E P "row_of" 256 (r 23),E P "is_plain_text" 263 (r 30),E P "with_texts_joined" 272 (r 37),E P "PatternCode" 356 (r 94),E P "straightened" 366 (r 105),E P "compile_pattern" 374 (r 112),E P "SnobolError" 410 (r 132),E P "Failure" 430 (r 145),E P "Pattern" 459 (r 166),E P "Delayed" 488 (r 187),E P "NameRef" 521 (r 208),E P "is_fail" 528 (r 219),E P "fits" 536 (r 226),E P "whole_of_text" 547 (r 233),E P "text_of_whole" 556 (r 240),E P "to_whole" 564 (r 247),E P "to_text" 571 (r 254),E P "need_text" 579 (r 261),E P "COUNTED" 587 (r 262),E P "SIGNED" 592 (r 263),E P "WIDTH_OF_COUNT" 594 (vi 64 593),E P "plain_count" 604 (r 271),E P "plain_signs" 613 (r 278),E P "pattern_of" 621 (r 285),E P "is_delayed" 628 (r 292),E P "settled" 637 (r 299),E P "OPENING" 641 (s "(" 640),E P "CLOSING" 643 (s ")" 642),E P "chars_end" 653 (r 306),E P "len_end" 662 (r 313),E P "pos_end" 670 (r 320),E P "rpos_end" 679 (r 327),E P "tab_end" 688 (r 334),E P "rtab_end" 698 (r 341),E P "rem_end" 705 (r 348),E P "any_at" 714 (r 355),E P "notany_at" 723 (r 362),E P "run_end" 733 (r 369),E P "span_end" 743 (r 376),E P "break_end" 753 (r 383),E P "arb_ends" 761 (r 390),E P "bal_end" 770 (r 397),E P "bal_ends" 780 (r 404),E P "one_end" 790 (r 411),E P "plain_end" 799 (r 418),E P "ends_of" 810 (r 425),E P "MET" 814 (vi 0 813),E P "FAILED" 816 (vi 1 815),E P "OVER" 818 (vi 2 817),E P "Way" 865 (r 449)] 81
noncomputable def o459:Obj:=fl N0 [(j 24),j0,(r 22),(j 33),j0,(r 29),(j 35),j0,(r 36),(j 45),j0,(r 43),(j 106),j0,(r 104),(j 116),j0,(r 111),(j 122),j0,(r 119),(j 128),j0,(r 141),(j 130),j0,(r 155),(j 134),j0,(r 176),(j 138),j0,(r 197),(j 144),j0,(r 218),(j 146),j0,(r 225),(j 148),j0,(r 232),(j 161),j0,(r 239),(j 167),j0,(r 246),(j 171),j0,(r 253),(j 175),j0,(r 260),(j 184),j0,(r 270),(j 191),j0,(r 277),(j 196),j0,(r 284),(j 205),j0,(r 291),(j 207),j0,(r 298),(j 219),j0,(r 305),(j 222),j0,(r 312),(j 224),j0,(r 319),(j 226),j0,(r 326),(j 228),j0,(r 333),(j 230),j0,(r 340),(j 233),j0,(r 347),(j 235),j0,(r 354),(j 237),j0,(r 361),(j 239),j0,(r 368),(j 243),j0,(r 375),(j 246),j0,(r 382),(j 249),j0,(r 389),(j 251),j0,(r 396),(j 264),j0,(r 403),(j 270),j0,(r 410),(j 290),j0,(r 417),(j 292),j0,(r 424),(j 305),j0,(r 431)]
noncomputable def o462:Obj:=sq [(s "kind" 784),(s "subject" 785),(s "at" 786),(s "told" 787)]
noncomputable def o464:Obj:=f0 "one_end" "one_end" (st 69)
noncomputable def o465:Obj:=fl (VT "code") [(s "one_end" 781),(s "one_end" 782),(u 783),(j 270),(j 4),j0,j0,(j 3),(r 405),bt,(j 181),(r 406),N0,(r 407),(r 408),(r 409),(j 788),(j 270),(u 789)]
noncomputable def o466:Obj:=f1 "one_end" "one_end" (st 69) 3 (s "snobol.primitives" 638) 410
noncomputable def o469:Obj:=sq [(s "node" 794),(s "subject" 795),(s "at" 796)]
noncomputable def o471:Obj:=f0 "plain_end" "plain_end" (st 70)
noncomputable def o472:Obj:=fl (VT "code") [(s "plain_end" 791),(s "plain_end" 792),(u 793),(j 290),(j 3),j0,j0,(j 3),(r 412),bt,(j 181),(r 413),N0,(r 414),(r 415),(r 416),(j 797),(j 290),(u 798)]
noncomputable def o473:Obj:=f1 "plain_end" "plain_end" (st 70) 3 (s "snobol.primitives" 638) 417
noncomputable def o476:Obj:=sq [(s "kind" 803),(s "subject" 804),(s "at" 805),(s "told" 806),(s "end" 807)]
noncomputable def o478:Obj:=f0 "ends_of" "ends_of" (st 71)
noncomputable def o479:Obj:=fl (VT "code") [(s "ends_of" 800),(s "ends_of" 801),(u 802),(j 292),(j 4),j0,j0,(j 3),(r 419),bt,(j 181),(r 420),N0,(r 421),(r 422),(r 423),(j 808),(j 292),(u 809)]
noncomputable def o480:Obj:=f1 "ends_of" "ends_of" (st 71) 3 (s "snobol.primitives" 638) 424
noncomputable def o483 (P:Params):Obj:=di [E P "__module__" 826 (s "snobol.pattern_machine" 811),E P "__qualname__" 828 (s "Way" 827),E P "__firstlineno__" 830 (vi 305 829),E P "__init__" 843 (r 439),E P "copied" 851 (r 446),E P "__static_attributes__" 858 (r 447)] 6
noncomputable def o485:Obj:=fl N0 [(j 307),(j 4),(r 438),(j 315),(j 4),(r 445)]
noncomputable def o486:Obj:=fl (VT "code") [(s "Way" 821),(s "Way" 822),(u 823),(j 305),j0,j0,j0,j0,(r 429),bf,(j 181),(r 430),N0,N0,N0,N0,(j 824),(j 305),(u 825)]
noncomputable def o487:Obj:=⟨(VT "frame"),none,Data.plain,⟨[(some (r 431)),(some (r 3)),(some (r 428)),none,(some (s "snobol.pattern_machine" 811)),none,(some (r 0))]⟩⟩
noncomputable def o490:Obj:=sq [(s "self" 834),(s "orders" 835),(s "pc" 836),(s "at" 837),(s "named" 838),(s "marks" 839),(s "calls" 840)]
noncomputable def o492:Obj:=f0 "__init__" "Way.__init__" (sc 76 0)
noncomputable def o493:Obj:=fl (VT "code") [(s "__init__" 831),(s "Way.__init__" 832),(u 833),(j 307),(j 7),j0,j0,(j 3),(r 433),bt,(j 181),(r 434),N0,(r 435),(r 436),(r 437),(j 841),(j 307),(u 842)]
noncomputable def o494:Obj:=f1 "__init__" "Way.__init__" (sc 76 0) 3 (s "snobol.pattern_machine" 811) 438
noncomputable def o497:Obj:=sq [(s "self" 847),(s "pc" 848)]
noncomputable def o499:Obj:=f0 "copied" "Way.copied" (sc 76 1)
noncomputable def o500:Obj:=fl (VT "code") [(s "copied" 844),(s "Way.copied" 845),(u 846),(j 315),(j 2),j0,j0,(j 3),(r 440),bt,(j 181),(r 441),N0,(r 442),(r 443),(r 444),(j 849),(j 315),(u 850)]
noncomputable def o501:Obj:=f1 "copied" "Way.copied" (sc 76 1) 3 (s "snobol.pattern_machine" 811) 445
noncomputable def o502:Obj:=sq [(s "at" 852),(s "calls" 853),(s "marks" 854),(s "named" 855),(s "orders" 856),(s "pc" 857)]
noncomputable def o503 (P:Params):Obj:=di [E P "__module__" 826 (s "snobol.pattern_machine" 811),E P "__firstlineno__" 830 (vi 305 829),E P "__init__" 843 (r 439),E P "copied" 851 (r 446),E P "__static_attributes__" 858 (r 447),E P "__dict__" 860 (r 450),E P "__weakref__" 862 (r 451),E P "__doc__" 863 N0] 4
noncomputable def o504:Obj:=⟨(VT "type"),none,(.cls ⟨(S "Way"),[(VT "object")],[(r 449),(VT "object")],448,(S "Way"),true,[],[],false,none,false⟩),⟨[none,none,(some (s "Way" 819)),(some (s "Way" 827)),(some (VB "object.__new__")),(some bt)]⟩⟩
noncomputable def o505:Obj:=fl (VT "getset_descriptor") [(s "__dict__" 859),(r 449),(VB "function.__dict__"),(VB "function.__dict__#set")]
noncomputable def o506:Obj:=fl (VT "getset_descriptor") [(s "__weakref__" 861),(r 449),(VB "ExceptionGroup.__weakref__"),N0]
noncomputable def o507:Obj:=fl (VT "super") [(r 449),(r 449),(r 449)]
noncomputable def o508:Obj:=fl (VT "builtin_function_or_method") [(VB "object.__init_subclass__"),(r 449)]
noncomputable def o509 (P:Params):Obj:=di [E P "__name__" 165 (s "snobol.pattern_machine" 811),E P "__doc__" 166 N0,E P "__package__" 167 N0,E P "__loader__" 168 ldr,E P "__spec__" 169 N0,E P "__annotations__" 170 (r 6),E P "__builtins__" 171 (r 4),E P "__file__" 173 (u 172),E P "__cached__" 174 N0,E P "ONE" 190 (s "one" 189),E P "WAYS" 192 (s "ways" 191),E P "SPLIT" 194 (s "split" 193),E P "JUMP" 196 (s "jump" 195),E P "MARK" 198 (s "mark" 197),E P "NAME" 200 (s "name" 199),E P "SET" 202 (s "set" 201),E P "GAIN" 204 (s "gain" 203),E P "PLACE" 206 (s "place" 205),E P "ASK" 208 (s "ask" 207),E P "FENCE" 210 (s "fence" 209),E P "FAIL" 212 (s "fail" 211),E P "ABORT" 214 (s "abort" 213),E P "SUCCEED" 216 (s "succeed" 215),E P "DONE" 218 (s "done" 217),E P "PUT" 220 (s "put" 219),E P "EMIT" 222 (s "emit" 221),E P "OPEN" 224 (s "open" 223),E P "SHUT" 226 (s "shut" 225),E P "MEET" 228 (s "meet" 227),E P "SINGLE" 240 (r 15),E P "ALONE" 245 (r 16),E P "row_of" 256 (r 23),E P "is_plain_text" 263 (r 30),E P "with_texts_joined" 272 (r 37),E P "PatternCode" 356 (r 94),E P "straightened" 366 (r 105),E P "compile_pattern" 374 (r 112),E P "SnobolError" 410 (r 132),E P "Failure" 430 (r 145),E P "Pattern" 459 (r 166),E P "Delayed" 488 (r 187),E P "NameRef" 521 (r 208),E P "is_fail" 528 (r 219),E P "fits" 536 (r 226),E P "whole_of_text" 547 (r 233),E P "text_of_whole" 556 (r 240),E P "to_whole" 564 (r 247),E P "to_text" 571 (r 254),E P "need_text" 579 (r 261),E P "COUNTED" 587 (r 262),E P "SIGNED" 592 (r 263),E P "WIDTH_OF_COUNT" 594 (vi 64 593),E P "plain_count" 604 (r 271),E P "plain_signs" 613 (r 278),E P "pattern_of" 621 (r 285),E P "is_delayed" 628 (r 292),E P "settled" 637 (r 299),E P "OPENING" 641 (s "(" 640),E P "CLOSING" 643 (s ")" 642),E P "chars_end" 653 (r 306),E P "len_end" 662 (r 313),E P "pos_end" 670 (r 320),E P "rpos_end" 679 (r 327),E P "tab_end" 688 (r 334),E P "rtab_end" 698 (r 341),E P "rem_end" 705 (r 348),E P "any_at" 714 (r 355),E P "notany_at" 723 (r 362),E P "run_end" 733 (r 369),E P "span_end" 743 (r 376),E P "break_end" 753 (r 383),E P "arb_ends" 761 (r 390),E P "bal_end" 770 (r 397),E P "bal_ends" 780 (r 404),E P "one_end" 790 (r 411),E P "plain_end" 799 (r 418),E P "ends_of" 810 (r 425),E P "MET" 814 (vi 0 813),E P "FAILED" 816 (vi 1 815),E P "OVER" 818 (vi 2 817),E P "Way" 865 (r 449),E P "Match" 980 (r 526)] 82
noncomputable def o510:Obj:=fl N0 [(j 24),j0,(r 22),(j 33),j0,(r 29),(j 35),j0,(r 36),(j 45),j0,(r 43),(j 106),j0,(r 104),(j 116),j0,(r 111),(j 122),j0,(r 119),(j 128),j0,(r 141),(j 130),j0,(r 155),(j 134),j0,(r 176),(j 138),j0,(r 197),(j 144),j0,(r 218),(j 146),j0,(r 225),(j 148),j0,(r 232),(j 161),j0,(r 239),(j 167),j0,(r 246),(j 171),j0,(r 253),(j 175),j0,(r 260),(j 184),j0,(r 270),(j 191),j0,(r 277),(j 196),j0,(r 284),(j 205),j0,(r 291),(j 207),j0,(r 298),(j 219),j0,(r 305),(j 222),j0,(r 312),(j 224),j0,(r 319),(j 226),j0,(r 326),(j 228),j0,(r 333),(j 230),j0,(r 340),(j 233),j0,(r 347),(j 235),j0,(r 354),(j 237),j0,(r 361),(j 239),j0,(r 368),(j 243),j0,(r 375),(j 246),j0,(r 382),(j 249),j0,(r 389),(j 251),j0,(r 396),(j 264),j0,(r 403),(j 270),j0,(r 410),(j 290),j0,(r 417),(j 292),j0,(r 424),(j 305),j0,(r 431),(j 317),j0,(r 459)]
noncomputable def o513 (P:Params):Obj:=di [E P "__module__" 873 (s "snobol.pattern_machine" 811),E P "__qualname__" 875 (s "Match" 874),E P "__firstlineno__" 877 (vi 317 876),E P "__init__" 886 (r 467),E P "run" 897 (r 474),E P "way_back" 904 (r 481),E P "done" 914 (r 488),E P "met_once" 926 (r 495),E P "ended" 938 (r 502),E P "other" 948 (r 509),E P "met_often" 959 (r 516),E P "asked" 969 (r 523),E P "__static_attributes__" 973 (r 524)] 13
noncomputable def o515:Obj:=fl N0 [(j 319),(j 4),(r 466),(j 324),(j 4),(r 473),(j 339),(j 4),(r 480),(j 342),(j 4),(r 487),(j 364),(j 4),(r 494),(j 378),(j 4),(r 501),(j 389),(j 4),(r 508),(j 407),(j 4),(r 515),(j 418),(j 4),(r 522)]
noncomputable def o516:Obj:=fl (VT "code") [(s "Match" 868),(s "Match" 869),(u 870),(j 317),j0,j0,j0,j0,(r 457),bf,(j 181),(r 458),N0,N0,N0,N0,(j 871),(j 317),(u 872)]
noncomputable def o517:Obj:=⟨(VT "frame"),none,Data.plain,⟨[(some (r 459)),(some (r 3)),(some (r 456)),none,(some (s "snobol.pattern_machine" 811)),none,(some (r 0))]⟩⟩
noncomputable def o520:Obj:=sq [(s "self" 881),(s "subject" 882),(s "host" 883)]
noncomputable def o522:Obj:=f0 "__init__" "Match.__init__" (sc 77 0)
noncomputable def o523:Obj:=fl (VT "code") [(s "__init__" 878),(s "Match.__init__" 879),(u 880),(j 319),(j 3),j0,j0,(j 3),(r 461),bt,(j 181),(r 462),N0,(r 463),(r 464),(r 465),(j 884),(j 319),(u 885)]
noncomputable def o524:Obj:=f1 "__init__" "Match.__init__" (sc 77 0) 3 (s "snobol.pattern_machine" 811) 466
noncomputable def o527:Obj:=sq [(s "self" 890),(s "orders" 891),(s "begin" 892),(s "way" 893),(s "order" 894)]
noncomputable def o529:Obj:=f0 "run" "Match.run" (sc 77 1)
noncomputable def o530:Obj:=fl (VT "code") [(s "run" 887),(s "Match.run" 888),(u 889),(j 324),(j 3),j0,j0,(j 3),(r 468),bt,(j 181),(r 469),N0,(r 470),(r 471),(r 472),(j 895),(j 324),(u 896)]
noncomputable def o531:Obj:=f1 "run" "Match.run" (sc 77 1) 3 (s "snobol.pattern_machine" 811) 473
noncomputable def o534:Obj:=sq [(s "self" 901)]
noncomputable def o536:Obj:=f0 "way_back" "Match.way_back" (sc 77 2)
noncomputable def o537:Obj:=fl (VT "code") [(s "way_back" 898),(s "Match.way_back" 899),(u 900),(j 339),(j 1),j0,j0,(j 3),(r 475),bt,(j 181),(r 476),N0,(r 477),(r 478),(r 479),(j 902),(j 339),(u 903)]
noncomputable def o538:Obj:=f1 "way_back" "Match.way_back" (sc 77 2) 3 (s "snobol.pattern_machine" 811) 480
noncomputable def o541:Obj:=sq [(s "self" 908),(s "order" 909),(s "way" 910),(s "word" 911)]
noncomputable def o543:Obj:=f0 "done" "Match.done" (sc 77 3)
noncomputable def o544:Obj:=fl (VT "code") [(s "done" 905),(s "Match.done" 906),(u 907),(j 342),(j 3),j0,j0,(j 3),(r 482),bt,(j 181),(r 483),N0,(r 484),(r 485),(r 486),(j 912),(j 342),(u 913)]
noncomputable def o545:Obj:=f1 "done" "Match.done" (sc 77 3) 3 (s "snobol.pattern_machine" 811) 487
noncomputable def o548:Obj:=sq [(s "self" 918),(s "order" 919),(s "way" 920),(s "told" 921),(s "node" 922),(s "end" 923)]
noncomputable def o550:Obj:=f0 "met_once" "Match.met_once" (sc 77 4)
noncomputable def o551:Obj:=fl (VT "code") [(s "met_once" 915),(s "Match.met_once" 916),(u 917),(j 364),(j 3),j0,j0,(j 3),(r 489),bt,(j 181),(r 490),N0,(r 491),(r 492),(r 493),(j 924),(j 364),(u 925)]
noncomputable def o552:Obj:=f1 "met_once" "Match.met_once" (sc 77 4) 3 (s "snobol.pattern_machine" 811) 494
noncomputable def o555:Obj:=sq [(s "self" 930),(s "order" 931),(s "way" 932),(s "marks" 933),(s "begin" 934),(s "text" 935)]
noncomputable def o557:Obj:=f0 "ended" "Match.ended" (sc 77 5)
noncomputable def o558:Obj:=fl (VT "code") [(s "ended" 927),(s "Match.ended" 928),(u 929),(j 378),(j 3),j0,j0,(j 3),(r 496),bt,(j 181),(r 497),N0,(r 498),(r 499),(r 500),(j 936),(j 378),(u 937)]
noncomputable def o559:Obj:=f1 "ended" "Match.ended" (sc 77 5) 3 (s "snobol.pattern_machine" 811) 501
noncomputable def o562:Obj:=sq [(s "self" 942),(s "order" 943),(s "way" 944),(s "word" 945)]
noncomputable def o564:Obj:=f0 "other" "Match.other" (sc 77 6)
noncomputable def o565:Obj:=fl (VT "code") [(s "other" 939),(s "Match.other" 940),(u 941),(j 389),(j 3),j0,j0,(j 3),(r 503),bt,(j 181),(r 504),N0,(r 505),(r 506),(r 507),(j 946),(j 389),(u 947)]
noncomputable def o566:Obj:=f1 "other" "Match.other" (sc 77 6) 3 (s "snobol.pattern_machine" 811) 508
noncomputable def o569:Obj:=sq [(s "self" 952),(s "way" 953),(s "ends" 954),(s "end" 955),(s "other" 956)]
noncomputable def o571:Obj:=f0 "met_often" "Match.met_often" (sc 77 7)
noncomputable def o572:Obj:=fl (VT "code") [(s "met_often" 949),(s "Match.met_often" 950),(u 951),(j 407),(j 3),j0,j0,(j 3),(r 510),bt,(j 181),(r 511),N0,(r 512),(r 513),(r 514),(j 957),(j 407),(u 958)]
noncomputable def o573:Obj:=f1 "met_often" "Match.met_often" (sc 77 7) 3 (s "snobol.pattern_machine" 811) 515
noncomputable def o576:Obj:=sq [(s "self" 963),(s "tree" 964),(s "way" 965),(s "value" 966)]
noncomputable def o578:Obj:=f0 "asked" "Match.asked" (sc 77 8)
noncomputable def o579:Obj:=fl (VT "code") [(s "asked" 960),(s "Match.asked" 961),(u 962),(j 418),(j 3),j0,j0,(j 3),(r 517),bt,(j 181),(r 518),N0,(r 519),(r 520),(r 521),(j 967),(j 418),(u 968)]
noncomputable def o580:Obj:=f1 "asked" "Match.asked" (sc 77 8) 3 (s "snobol.pattern_machine" 811) 522
noncomputable def o581:Obj:=sq [(s "history" 970),(s "host" 971),(s "subject" 972)]
noncomputable def o582 (P:Params):Obj:=di [E P "__module__" 873 (s "snobol.pattern_machine" 811),E P "__firstlineno__" 877 (vi 317 876),E P "__init__" 886 (r 467),E P "run" 897 (r 474),E P "way_back" 904 (r 481),E P "done" 914 (r 488),E P "met_once" 926 (r 495),E P "ended" 938 (r 502),E P "other" 948 (r 509),E P "met_often" 959 (r 516),E P "asked" 969 (r 523),E P "__static_attributes__" 973 (r 524),E P "__dict__" 975 (r 527),E P "__weakref__" 977 (r 528),E P "__doc__" 978 N0] 4
noncomputable def o583:Obj:=⟨(VT "type"),none,(.cls ⟨(S "Match"),[(VT "object")],[(r 526),(VT "object")],525,(S "Match"),true,[],[],false,none,false⟩),⟨[none,none,(some (s "Match" 866)),(some (s "Match" 874)),(some (VB "object.__new__")),(some bt)]⟩⟩
noncomputable def o584:Obj:=fl (VT "getset_descriptor") [(s "__dict__" 974),(r 526),(VB "function.__dict__"),(VB "function.__dict__#set")]
noncomputable def o585:Obj:=fl (VT "getset_descriptor") [(s "__weakref__" 976),(r 526),(VB "ExceptionGroup.__weakref__"),N0]
noncomputable def o586:Obj:=fl (VT "super") [(r 526),(r 526),(r 526)]
noncomputable def o587:Obj:=fl (VT "builtin_function_or_method") [(VB "object.__init_subclass__"),(r 526)]
noncomputable def o588 (P:Params):Obj:=di [E P "__name__" 165 (s "snobol.hosts" 1013),E P "__doc__" 166 N0,E P "__package__" 167 N0,E P "__loader__" 168 ldr,E P "__spec__" 169 N0,E P "__annotations__" 170 (r 6),E P "__builtins__" 171 (r 4),E P "__file__" 173 (u 172),E P "__cached__" 174 N0,E P "ONE" 190 (s "one" 189),E P "WAYS" 192 (s "ways" 191),E P "SPLIT" 194 (s "split" 193),E P "JUMP" 196 (s "jump" 195),E P "MARK" 198 (s "mark" 197),E P "NAME" 200 (s "name" 199),E P "SET" 202 (s "set" 201),E P "GAIN" 204 (s "gain" 203),E P "PLACE" 206 (s "place" 205),E P "ASK" 208 (s "ask" 207),E P "FENCE" 210 (s "fence" 209),E P "FAIL" 212 (s "fail" 211),E P "ABORT" 214 (s "abort" 213),E P "SUCCEED" 216 (s "succeed" 215),E P "DONE" 218 (s "done" 217),E P "PUT" 220 (s "put" 219),E P "EMIT" 222 (s "emit" 221),E P "OPEN" 224 (s "open" 223),E P "SHUT" 226 (s "shut" 225),E P "MEET" 228 (s "meet" 227),E P "SINGLE" 240 (r 15),E P "ALONE" 245 (r 16),E P "row_of" 256 (r 23),E P "is_plain_text" 263 (r 30),E P "with_texts_joined" 272 (r 37),E P "PatternCode" 356 (r 94),E P "straightened" 366 (r 105),E P "compile_pattern" 374 (r 112),E P "SnobolError" 410 (r 132),E P "Failure" 430 (r 145),E P "Pattern" 459 (r 166),E P "Delayed" 488 (r 187),E P "NameRef" 521 (r 208),E P "is_fail" 528 (r 219),E P "fits" 536 (r 226),E P "whole_of_text" 547 (r 233),E P "text_of_whole" 556 (r 240),E P "to_whole" 564 (r 247),E P "to_text" 571 (r 254),E P "need_text" 579 (r 261),E P "COUNTED" 587 (r 262),E P "SIGNED" 592 (r 263),E P "WIDTH_OF_COUNT" 594 (vi 64 593),E P "plain_count" 604 (r 271),E P "plain_signs" 613 (r 278),E P "pattern_of" 621 (r 285),E P "is_delayed" 628 (r 292),E P "settled" 637 (r 299),E P "OPENING" 641 (s "(" 640),E P "CLOSING" 643 (s ")" 642),E P "chars_end" 653 (r 306),E P "len_end" 662 (r 313),E P "pos_end" 670 (r 320),E P "rpos_end" 679 (r 327),E P "tab_end" 688 (r 334),E P "rtab_end" 698 (r 341),E P "rem_end" 705 (r 348),E P "any_at" 714 (r 355),E P "notany_at" 723 (r 362),E P "run_end" 733 (r 369),E P "span_end" 743 (r 376),E P "break_end" 753 (r 383),E P "arb_ends" 761 (r 390),E P "bal_end" 770 (r 397),E P "bal_ends" 780 (r 404),E P "one_end" 790 (r 411),E P "plain_end" 799 (r 418),E P "ends_of" 810 (r 425),E P "MET" 814 (vi 0 813),E P "FAILED" 816 (vi 1 815),E P "OVER" 818 (vi 2 817),E P "Way" 865 (r 449),E P "Match" 980 (r 526),E P "named_rows" 989 (r 537),E P "match_orders" 1002 (r 544),E P "match_compiled" 1012 (r 551)] 85
noncomputable def o589:Obj:=fl N0 [(j 24),j0,(r 22),(j 33),j0,(r 29),(j 35),j0,(r 36),(j 45),j0,(r 43),(j 106),j0,(r 104),(j 116),j0,(r 111),(j 122),j0,(r 119),(j 128),j0,(r 141),(j 130),j0,(r 155),(j 134),j0,(r 176),(j 138),j0,(r 197),(j 144),j0,(r 218),(j 146),j0,(r 225),(j 148),j0,(r 232),(j 161),j0,(r 239),(j 167),j0,(r 246),(j 171),j0,(r 253),(j 175),j0,(r 260),(j 184),j0,(r 270),(j 191),j0,(r 277),(j 196),j0,(r 284),(j 205),j0,(r 291),(j 207),j0,(r 298),(j 219),j0,(r 305),(j 222),j0,(r 312),(j 224),j0,(r 319),(j 226),j0,(r 326),(j 228),j0,(r 333),(j 230),j0,(r 340),(j 233),j0,(r 347),(j 235),j0,(r 354),(j 237),j0,(r 361),(j 239),j0,(r 368),(j 243),j0,(r 375),(j 246),j0,(r 382),(j 249),j0,(r 389),(j 251),j0,(r 396),(j 264),j0,(r 403),(j 270),j0,(r 410),(j 290),j0,(r 417),(j 292),j0,(r 424),(j 305),j0,(r 431),(j 317),j0,(r 459),(j 425),j0,(r 536),(j 432),j0,(r 543),(j 440),j0,(r 550)]
noncomputable def o592:Obj:=sq [(s "named" 984),(s "found" 985),(s "last" 986)]
noncomputable def o594:Obj:=f0 "named_rows" "named_rows" (st 78)
noncomputable def o595:Obj:=fl (VT "code") [(s "named_rows" 981),(s "named_rows" 982),(u 983),(j 425),(j 1),j0,j0,(j 3),(r 531),bt,(j 181),(r 532),N0,(r 533),(r 534),(r 535),(j 987),(j 425),(u 988)]
noncomputable def o596:Obj:=f1 "named_rows" "named_rows" (st 78) 3 (s "snobol.pattern_machine" 811) 536
noncomputable def o599:Obj:=sq [(s "orders" 993),(s "subject" 994),(s "is_anchored" 995),(s "host" 996),(s "begin" 997),(s "how" 998),(s "way" 999)]
noncomputable def o601:Obj:=f0 "match_orders" "match_orders" (st 79)
noncomputable def o602:Obj:=fl (VT "code") [(s "match_orders" 990),(s "match_orders" 991),(u 992),(j 432),(j 4),j0,j0,(j 3),(r 538),bt,(j 181),(r 539),N0,(r 540),(r 541),(r 542),(j 1000),(j 432),(u 1001)]
noncomputable def o603:Obj:=f1 "match_orders" "match_orders" (st 79) 3 (s "snobol.pattern_machine" 811) 543
noncomputable def o606:Obj:=sq [(s "node" 1006),(s "subject" 1007),(s "is_anchored" 1008),(s "host" 1009)]
noncomputable def o608:Obj:=f0 "match_compiled" "match_compiled" (st 80)
noncomputable def o609:Obj:=fl (VT "code") [(s "match_compiled" 1003),(s "match_compiled" 1004),(u 1005),(j 440),(j 4),j0,j0,(j 3),(r 545),bt,(j 181),(r 546),N0,(r 547),(r 548),(r 549),(j 1010),(j 440),(u 1011)]
noncomputable def o610:Obj:=f1 "match_compiled" "match_compiled" (st 80) 3 (s "snobol.pattern_machine" 811) 550
noncomputable def o611 (P:Params):Obj:=di [E P "__name__" 165 (s "snobol.trial" 1075),E P "__doc__" 166 N0,E P "__package__" 167 N0,E P "__loader__" 168 ldr,E P "__spec__" 169 N0,E P "__annotations__" 170 (r 6),E P "__builtins__" 171 (r 4),E P "__file__" 173 (u 172),E P "__cached__" 174 N0,E P "ONE" 190 (s "one" 189),E P "WAYS" 192 (s "ways" 191),E P "SPLIT" 194 (s "split" 193),E P "JUMP" 196 (s "jump" 195),E P "MARK" 198 (s "mark" 197),E P "NAME" 200 (s "name" 199),E P "SET" 202 (s "set" 201),E P "GAIN" 204 (s "gain" 203),E P "PLACE" 206 (s "place" 205),E P "ASK" 208 (s "ask" 207),E P "FENCE" 210 (s "fence" 209),E P "FAIL" 212 (s "fail" 211),E P "ABORT" 214 (s "abort" 213),E P "SUCCEED" 216 (s "succeed" 215),E P "DONE" 218 (s "done" 217),E P "PUT" 220 (s "put" 219),E P "EMIT" 222 (s "emit" 221),E P "OPEN" 224 (s "open" 223),E P "SHUT" 226 (s "shut" 225),E P "MEET" 228 (s "meet" 227),E P "SINGLE" 240 (r 15),E P "ALONE" 245 (r 16),E P "row_of" 256 (r 23),E P "is_plain_text" 263 (r 30),E P "with_texts_joined" 272 (r 37),E P "PatternCode" 356 (r 94),E P "straightened" 366 (r 105),E P "compile_pattern" 374 (r 112),E P "SnobolError" 410 (r 132),E P "Failure" 430 (r 145),E P "Pattern" 459 (r 166),E P "Delayed" 488 (r 187),E P "NameRef" 521 (r 208),E P "is_fail" 528 (r 219),E P "fits" 536 (r 226),E P "whole_of_text" 547 (r 233),E P "text_of_whole" 556 (r 240),E P "to_whole" 564 (r 247),E P "to_text" 571 (r 254),E P "need_text" 579 (r 261),E P "COUNTED" 587 (r 262),E P "SIGNED" 592 (r 263),E P "WIDTH_OF_COUNT" 594 (vi 64 593),E P "plain_count" 604 (r 271),E P "plain_signs" 613 (r 278),E P "pattern_of" 621 (r 285),E P "is_delayed" 628 (r 292),E P "settled" 637 (r 299),E P "OPENING" 641 (s "(" 640),E P "CLOSING" 643 (s ")" 642),E P "chars_end" 653 (r 306),E P "len_end" 662 (r 313),E P "pos_end" 670 (r 320),E P "rpos_end" 679 (r 327),E P "tab_end" 688 (r 334),E P "rtab_end" 698 (r 341),E P "rem_end" 705 (r 348),E P "any_at" 714 (r 355),E P "notany_at" 723 (r 362),E P "run_end" 733 (r 369),E P "span_end" 743 (r 376),E P "break_end" 753 (r 383),E P "arb_ends" 761 (r 390),E P "bal_end" 770 (r 397),E P "bal_ends" 780 (r 404),E P "one_end" 790 (r 411),E P "plain_end" 799 (r 418),E P "ends_of" 810 (r 425),E P "MET" 814 (vi 0 813),E P "FAILED" 816 (vi 1 815),E P "OVER" 818 (vi 2 817),E P "Way" 865 (r 449),E P "Match" 980 (r 526),E P "named_rows" 989 (r 537),E P "match_orders" 1002 (r 544),E P "match_compiled" 1012 (r 551),E P "PlainHost" 1074 (r 589),E P "LOST" 1078 (s "lost" 1077),E P "match_plain" 1090 (r 600)] 88
noncomputable def o612:Obj:=fl N0 [(j 24),j0,(r 22),(j 33),j0,(r 29),(j 35),j0,(r 36),(j 45),j0,(r 43),(j 106),j0,(r 104),(j 116),j0,(r 111),(j 122),j0,(r 119),(j 128),j0,(r 141),(j 130),j0,(r 155),(j 134),j0,(r 176),(j 138),j0,(r 197),(j 144),j0,(r 218),(j 146),j0,(r 225),(j 148),j0,(r 232),(j 161),j0,(r 239),(j 167),j0,(r 246),(j 171),j0,(r 253),(j 175),j0,(r 260),(j 184),j0,(r 270),(j 191),j0,(r 277),(j 196),j0,(r 284),(j 205),j0,(r 291),(j 207),j0,(r 298),(j 219),j0,(r 305),(j 222),j0,(r 312),(j 224),j0,(r 319),(j 226),j0,(r 326),(j 228),j0,(r 333),(j 230),j0,(r 340),(j 233),j0,(r 347),(j 235),j0,(r 354),(j 237),j0,(r 361),(j 239),j0,(r 368),(j 243),j0,(r 375),(j 246),j0,(r 382),(j 249),j0,(r 389),(j 251),j0,(r 396),(j 264),j0,(r 403),(j 270),j0,(r 410),(j 290),j0,(r 417),(j 292),j0,(r 424),(j 305),j0,(r 431),(j 317),j0,(r 459),(j 425),j0,(r 536),(j 432),j0,(r 543),(j 440),j0,(r 550),(j 443),j0,(r 557),(j 471),j0,(r 599)]
noncomputable def o615 (P:Params):Obj:=di [E P "__module__" 1022 (s "snobol.hosts" 1013),E P "__qualname__" 1024 (s "PlainHost" 1023),E P "__firstlineno__" 1026 (vi 443 1025),E P "__init__" 1036 (r 565),E P "value_of" 1044 (r 572),E P "assign" 1053 (r 579),E P "step" 1060 (r 586),E P "__static_attributes__" 1067 (r 587)] 8
noncomputable def o617:Obj:=fl N0 [(j 445),(j 4),(r 564),(j 453),(j 4),(r 571),(j 458),(j 4),(r 578),(j 465),(j 4),(r 585)]
noncomputable def o618:Obj:=fl (VT "code") [(s "PlainHost" 1017),(s "PlainHost" 1018),(u 1019),(j 443),j0,j0,j0,j0,(r 555),bf,(j 181),(r 556),N0,N0,N0,N0,(j 1020),(j 443),(u 1021)]
noncomputable def o619:Obj:=⟨(VT "frame"),none,Data.plain,⟨[(some (r 557)),(some (r 3)),(some (r 554)),none,(some (s "snobol.hosts" 1013)),none,(some (r 0))]⟩⟩
noncomputable def o622:Obj:=sq [(s "self" 1030),(s "values" 1031),(s "limit" 1032),(s "refused" 1033)]
noncomputable def o624:Obj:=f0 "__init__" "PlainHost.__init__" (sc 82 0)
noncomputable def o625:Obj:=fl (VT "code") [(s "__init__" 1027),(s "PlainHost.__init__" 1028),(u 1029),(j 445),(j 4),j0,j0,(j 3),(r 559),bt,(j 181),(r 560),N0,(r 561),(r 562),(r 563),(j 1034),(j 445),(u 1035)]
noncomputable def o626:Obj:=f1 "__init__" "PlainHost.__init__" (sc 82 0) 3 (s "snobol.hosts" 1013) 564
noncomputable def o629:Obj:=sq [(s "self" 1040),(s "tree" 1041)]
noncomputable def o631:Obj:=f0 "value_of" "PlainHost.value_of" (sc 82 1)
noncomputable def o632:Obj:=fl (VT "code") [(s "value_of" 1037),(s "PlainHost.value_of" 1038),(u 1039),(j 453),(j 2),j0,j0,(j 3),(r 566),bt,(j 181),(r 567),N0,(r 568),(r 569),(r 570),(j 1042),(j 453),(u 1043)]
noncomputable def o633:Obj:=f1 "value_of" "PlainHost.value_of" (sc 82 1) 3 (s "snobol.hosts" 1013) 571
noncomputable def o636:Obj:=sq [(s "self" 1048),(s "ref" 1049),(s "value" 1050)]
noncomputable def o638:Obj:=f0 "assign" "PlainHost.assign" (sc 82 2)
noncomputable def o639:Obj:=fl (VT "code") [(s "assign" 1045),(s "PlainHost.assign" 1046),(u 1047),(j 458),(j 3),j0,j0,(j 3),(r 573),bt,(j 181),(r 574),N0,(r 575),(r 576),(r 577),(j 1051),(j 458),(u 1052)]
noncomputable def o640:Obj:=f1 "assign" "PlainHost.assign" (sc 82 2) 3 (s "snobol.hosts" 1013) 578
noncomputable def o643:Obj:=sq [(s "self" 1057)]
noncomputable def o645:Obj:=f0 "step" "PlainHost.step" (sc 82 3)
noncomputable def o646:Obj:=fl (VT "code") [(s "step" 1054),(s "PlainHost.step" 1055),(u 1056),(j 465),(j 1),j0,j0,(j 3),(r 580),bt,(j 181),(r 581),N0,(r 582),(r 583),(r 584),(j 1058),(j 465),(u 1059)]
noncomputable def o647:Obj:=f1 "step" "PlainHost.step" (sc 82 3) 3 (s "snobol.hosts" 1013) 585
noncomputable def o648:Obj:=sq [(s "limit" 1061),(s "log" 1062),(s "refused" 1063),(s "steps" 1064),(s "values" 1065),(s "width" 1066)]
noncomputable def o649 (P:Params):Obj:=di [E P "__module__" 1022 (s "snobol.hosts" 1013),E P "__firstlineno__" 1026 (vi 443 1025),E P "__init__" 1036 (r 565),E P "value_of" 1044 (r 572),E P "assign" 1053 (r 579),E P "step" 1060 (r 586),E P "__static_attributes__" 1067 (r 587),E P "__dict__" 1069 (r 590),E P "__weakref__" 1071 (r 591),E P "__doc__" 1072 N0] 4
noncomputable def o650:Obj:=⟨(VT "type"),none,(.cls ⟨(S "PlainHost"),[(VT "object")],[(r 589),(VT "object")],588,(S "PlainHost"),true,[],[],false,none,false⟩),⟨[none,none,(some (s "PlainHost" 1015)),(some (s "PlainHost" 1023)),(some (VB "object.__new__")),(some bt)]⟩⟩
noncomputable def o651:Obj:=fl (VT "getset_descriptor") [(s "__dict__" 1068),(r 589),(VB "function.__dict__"),(VB "function.__dict__#set")]
noncomputable def o652:Obj:=fl (VT "getset_descriptor") [(s "__weakref__" 1070),(r 589),(VB "ExceptionGroup.__weakref__"),N0]
noncomputable def o653:Obj:=fl (VT "super") [(r 589),(r 589),(r 589)]
noncomputable def o654:Obj:=fl (VT "builtin_function_or_method") [(VB "object.__init_subclass__"),(r 589)]
noncomputable def o657:Obj:=sq [(s "node" 1082),(s "subject" 1083),(s "is_anchored" 1084),(s "host" 1085),(s "begin" 1086),(s "found" 1087)]
noncomputable def o659:Obj:=f0 "match_plain" "match_plain" (st 85)
noncomputable def o660:Obj:=fl (VT "code") [(s "match_plain" 1079),(s "match_plain" 1080),(u 1081),(j 471),(j 4),j0,j0,(j 3),(r 594),bt,(j 181),(r 595),N0,(r 596),(r 597),(r 598),(j 1088),(j 471),(u 1089)]
noncomputable def o661:Obj:=f1 "match_plain" "match_plain" (st 85) 3 (s "snobol.trial" 1075) 599
noncomputable def o662 (P:Params):Obj:=di [E P "__name__" 165 (s "law_sa0605_01" 1190),E P "__doc__" 166 N0,E P "__package__" 167 N0,E P "__loader__" 168 ldr,E P "__spec__" 169 N0,E P "__annotations__" 170 (r 6),E P "__builtins__" 171 (r 4),E P "__file__" 173 (u 172),E P "__cached__" 174 N0,E P "ONE" 190 (s "one" 189),E P "WAYS" 192 (s "ways" 191),E P "SPLIT" 194 (s "split" 193),E P "JUMP" 196 (s "jump" 195),E P "MARK" 198 (s "mark" 197),E P "NAME" 200 (s "name" 199),E P "SET" 202 (s "set" 201),E P "GAIN" 204 (s "gain" 203),E P "PLACE" 206 (s "place" 205),E P "ASK" 208 (s "ask" 207),E P "FENCE" 210 (s "fence" 209),E P "FAIL" 212 (s "fail" 211),E P "ABORT" 214 (s "abort" 213),E P "SUCCEED" 216 (s "succeed" 215),E P "DONE" 218 (s "done" 217),E P "PUT" 220 (s "put" 219),E P "EMIT" 222 (s "emit" 221),E P "OPEN" 224 (s "open" 223),E P "SHUT" 226 (s "shut" 225),E P "MEET" 228 (s "meet" 227),E P "SINGLE" 240 (r 15),E P "ALONE" 245 (r 16),E P "row_of" 256 (r 23),E P "is_plain_text" 263 (r 30),E P "with_texts_joined" 272 (r 37),E P "PatternCode" 356 (r 94),E P "straightened" 366 (r 105),E P "compile_pattern" 374 (r 112),E P "SnobolError" 410 (r 132),E P "Failure" 430 (r 145),E P "Pattern" 459 (r 166),E P "Delayed" 488 (r 187),E P "NameRef" 521 (r 208),E P "is_fail" 528 (r 219),E P "fits" 536 (r 226),E P "whole_of_text" 547 (r 233),E P "text_of_whole" 556 (r 240),E P "to_whole" 564 (r 247),E P "to_text" 571 (r 254),E P "need_text" 579 (r 261),E P "COUNTED" 587 (r 262),E P "SIGNED" 592 (r 263),E P "WIDTH_OF_COUNT" 594 (vi 64 593),E P "plain_count" 604 (r 271),E P "plain_signs" 613 (r 278),E P "pattern_of" 621 (r 285),E P "is_delayed" 628 (r 292),E P "settled" 637 (r 299),E P "OPENING" 641 (s "(" 640),E P "CLOSING" 643 (s ")" 642),E P "chars_end" 653 (r 306),E P "len_end" 662 (r 313),E P "pos_end" 670 (r 320),E P "rpos_end" 679 (r 327),E P "tab_end" 688 (r 334),E P "rtab_end" 698 (r 341),E P "rem_end" 705 (r 348),E P "any_at" 714 (r 355),E P "notany_at" 723 (r 362),E P "run_end" 733 (r 369),E P "span_end" 743 (r 376),E P "break_end" 753 (r 383),E P "arb_ends" 761 (r 390),E P "bal_end" 770 (r 397),E P "bal_ends" 780 (r 404),E P "one_end" 790 (r 411),E P "plain_end" 799 (r 418),E P "ends_of" 810 (r 425),E P "MET" 814 (vi 0 813),E P "FAILED" 816 (vi 1 815),E P "OVER" 818 (vi 2 817),E P "Way" 865 (r 449),E P "Match" 980 (r 526),E P "named_rows" 989 (r 537),E P "match_orders" 1002 (r 544),E P "match_compiled" 1012 (r 551),E P "PlainHost" 1074 (r 589),E P "LOST" 1078 (s "lost" 1077),E P "match_plain" 1090 (r 600),E P "match_at" 1101 (r 607),E P "tried" 1116 (r 614),E P "advanced" 1132 (r 621),E P "led_in" 1144 (r 628),E P "led_out" 1160 (r 635),E P "steered" 1172 (r 642),E P "taken" 1189 (r 649),E P "_law_next" 1201 (r 656),E P "_law_subject" 1207 (r 661),E P "_law_shortest" 1216 (r 668),E P "_law_prime" 1224 (r 675)] 99
noncomputable def o663:Obj:=fl N0 [(j 24),j0,(r 22),(j 33),j0,(r 29),(j 35),j0,(r 36),(j 45),j0,(r 43),(j 106),j0,(r 104),(j 116),j0,(r 111),(j 122),j0,(r 119),(j 128),j0,(r 141),(j 130),j0,(r 155),(j 134),j0,(r 176),(j 138),j0,(r 197),(j 144),j0,(r 218),(j 146),j0,(r 225),(j 148),j0,(r 232),(j 161),j0,(r 239),(j 167),j0,(r 246),(j 171),j0,(r 253),(j 175),j0,(r 260),(j 184),j0,(r 270),(j 191),j0,(r 277),(j 196),j0,(r 284),(j 205),j0,(r 291),(j 207),j0,(r 298),(j 219),j0,(r 305),(j 222),j0,(r 312),(j 224),j0,(r 319),(j 226),j0,(r 326),(j 228),j0,(r 333),(j 230),j0,(r 340),(j 233),j0,(r 347),(j 235),j0,(r 354),(j 237),j0,(r 361),(j 239),j0,(r 368),(j 243),j0,(r 375),(j 246),j0,(r 382),(j 249),j0,(r 389),(j 251),j0,(r 396),(j 264),j0,(r 403),(j 270),j0,(r 410),(j 290),j0,(r 417),(j 292),j0,(r 424),(j 305),j0,(r 431),(j 317),j0,(r 459),(j 425),j0,(r 536),(j 432),j0,(r 543),(j 440),j0,(r 550),(j 443),j0,(r 557),(j 471),j0,(r 599),(j 477),j0,(r 606),(j 480),j0,(r 613),(j 498),j0,(r 620),(j 513),j0,(r 627),(j 524),j0,(r 634),(j 531),j0,(r 641),(j 539),j0,(r 648),(j 556),j0,(r 655),(j 562),j0,(r 660),(j 572),j0,(r 667),(j 578),j0,(r 674)]
noncomputable def o666:Obj:=sq [(s "node" 1094),(s "subject" 1095),(s "begin" 1096),(s "host" 1097),(s "found" 1098)]
noncomputable def o668:Obj:=f0 "match_at" "match_at" (st 86)
noncomputable def o669:Obj:=fl (VT "code") [(s "match_at" 1091),(s "match_at" 1092),(u 1093),(j 477),(j 4),j0,j0,(j 3),(r 601),bt,(j 181),(r 602),N0,(r 603),(r 604),(r 605),(j 1099),(j 477),(u 1100)]
noncomputable def o670:Obj:=f1 "match_at" "match_at" (st 86) 3 (s "snobol.trial" 1075) 606
noncomputable def o673:Obj:=sq [(s "node" 1105),(s "subject" 1106),(s "begin" 1107),(s "host" 1108),(s "pile" 1109),(s "way" 1110),(s "chain" 1111),(s "at" 1112),(s "named" 1113)]
noncomputable def o675:Obj:=f0 "tried" "tried" (st 87)
noncomputable def o676:Obj:=fl (VT "code") [(s "tried" 1102),(s "tried" 1103),(u 1104),(j 480),(j 4),j0,j0,(j 3),(r 608),bt,(j 181),(r 609),N0,(r 610),(r 611),(r 612),(j 1114),(j 480),(u 1115)]
noncomputable def o677:Obj:=f1 "tried" "tried" (st 87) 3 (s "snobol.trial" 1075) 613
noncomputable def o680:Obj:=sq [(s "chain" 1120),(s "at" 1121),(s "named" 1122),(s "subject" 1123),(s "pile" 1124),(s "host" 1125),(s "here" 1126),(s "rest" 1127),(s "kind" 1128),(s "value" 1129)]
noncomputable def o682:Obj:=f0 "advanced" "advanced" (st 88)
noncomputable def o683:Obj:=fl (VT "code") [(s "advanced" 1117),(s "advanced" 1118),(u 1119),(j 498),(j 6),j0,j0,(j 3),(r 615),bt,(j 181),(r 616),N0,(r 617),(r 618),(r 619),(j 1130),(j 498),(u 1131)]
noncomputable def o684:Obj:=f1 "advanced" "advanced" (st 88) 3 (s "snobol.trial" 1075) 620
noncomputable def o687:Obj:=sq [(s "here" 1136),(s "rest" 1137),(s "at" 1138),(s "named" 1139),(s "pile" 1140),(s "kind" 1141)]
noncomputable def o689:Obj:=f0 "led_in" "led_in" (st 89)
noncomputable def o690:Obj:=fl (VT "code") [(s "led_in" 1133),(s "led_in" 1134),(u 1135),(j 513),(j 5),j0,j0,(j 3),(r 622),bt,(j 181),(r 623),N0,(r 624),(r 625),(r 626),(j 1142),(j 513),(u 1143)]
noncomputable def o691:Obj:=f1 "led_in" "led_in" (st 89) 3 (s "snobol.trial" 1075) 627
noncomputable def o694:Obj:=sq [(s "here" 1148),(s "rest" 1149),(s "at" 1150),(s "named" 1151),(s "subject" 1152),(s "pile" 1153),(s "host" 1154),(s "kind" 1155),(s "told" 1156),(s "begin" 1157)]
noncomputable def o696:Obj:=f0 "led_out" "led_out" (st 90)
noncomputable def o697:Obj:=fl (VT "code") [(s "led_out" 1145),(s "led_out" 1146),(u 1147),(j 524),(j 7),j0,j0,(j 3),(r 629),bt,(j 181),(r 630),N0,(r 631),(r 632),(r 633),(j 1158),(j 524),(u 1159)]
noncomputable def o698:Obj:=f1 "led_out" "led_out" (st 90) 3 (s "snobol.trial" 1075) 634
noncomputable def o701:Obj:=sq [(s "chain" 1164),(s "at" 1165),(s "named" 1166),(s "pile" 1167),(s "kind" 1168),(s "rest" 1169)]
noncomputable def o703:Obj:=f0 "steered" "steered" (st 91)
noncomputable def o704:Obj:=fl (VT "code") [(s "steered" 1161),(s "steered" 1162),(u 1163),(j 531),(j 4),j0,j0,(j 3),(r 636),bt,(j 181),(r 637),N0,(r 638),(r 639),(r 640),(j 1170),(j 531),(u 1171)]
noncomputable def o705:Obj:=f1 "steered" "steered" (st 91) 3 (s "snobol.trial" 1075) 641
noncomputable def o708:Obj:=sq [(s "here" 1176),(s "rest" 1177),(s "at" 1178),(s "named" 1179),(s "subject" 1180),(s "pile" 1181),(s "host" 1182),(s "kind" 1183),(s "ends" 1184),(s "end" 1185),(s "plain" 1186)]
noncomputable def o710:Obj:=f0 "taken" "taken" (st 92)
noncomputable def o711:Obj:=fl (VT "code") [(s "taken" 1173),(s "taken" 1174),(u 1175),(j 539),(j 7),j0,j0,(j 3),(r 643),bt,(j 181),(r 644),N0,(r 645),(r 646),(r 647),(j 1187),(j 539),(u 1188)]
noncomputable def o712:Obj:=f1 "taken" "taken" (st 92) 3 (s "snobol.trial" 1075) 648
noncomputable def o715:Obj:=sq [(s "feed" 1195),(s "many" 1196),(s "cells" 1197),(s "turn" 1198)]
noncomputable def o717:Obj:=f0 "_law_next" "_law_next" (st 94)
noncomputable def o718:Obj:=fl (VT "code") [(s "_law_next" 1192),(s "_law_next" 1193),(u 1194),(j 556),(j 2),j0,j0,(j 3),(r 650),bt,(j 181),(r 651),N0,(r 652),(r 653),(r 654),(j 1199),(j 556),(u 1200)]
noncomputable def o719:Obj:=f1 "_law_next" "_law_next" (st 94) 3 (s "law_sa0605_01" 1190) 655
noncomputable def o722:Obj:=f0 "_law_subject" "_law_subject" (st 95)
noncomputable def o723:Obj:=fl (VT "code") [(s "_law_subject" 1202),(s "_law_subject" 1203),(u 1204),(j 562),(j 1),j0,j0,(j 3),(r 657),bt,(j 181),(r 658),N0,N0,N0,(r 659),(j 1205),(j 562),(u 1206)]
noncomputable def o724:Obj:=f1 "_law_subject" "_law_subject" (st 95) 3 (s "law_sa0605_01" 1190) 660
noncomputable def o727:Obj:=sq [(s "subject" 1211),(s "size" 1212),(s "many" 1213)]
noncomputable def o729:Obj:=f0 "_law_shortest" "_law_shortest" (st 96)
noncomputable def o730:Obj:=fl (VT "code") [(s "_law_shortest" 1208),(s "_law_shortest" 1209),(u 1210),(j 572),(j 1),j0,j0,(j 3),(r 662),bt,(j 181),(r 663),N0,(r 664),(r 665),(r 666),(j 1214),(j 572),(u 1215)]
noncomputable def o731:Obj:=f1 "_law_shortest" "_law_shortest" (st 96) 3 (s "law_sa0605_01" 1190) 667
noncomputable def o734:Obj:=sq [(s "number" 1220),(s "one" 1221)]
noncomputable def o736:Obj:=f0 "_law_prime" "_law_prime" (st 97)
noncomputable def o737:Obj:=fl (VT "code") [(s "_law_prime" 1217),(s "_law_prime" 1218),(u 1219),(j 578),(j 1),j0,j0,(j 3),(r 669),bt,(j 181),(r 670),N0,(r 671),(r 672),(r 673),(j 1222),(j 578),(u 1223)]
noncomputable def o738:Obj:=f1 "_law_prime" "_law_prime" (st 97) 3 (s "law_sa0605_01" 1190) 674
noncomputable def o739 (P:Params):Obj:=di [E P "__name__" 165 (s "law_sa0605_01" 1190),E P "__doc__" 166 N0,E P "__package__" 167 N0,E P "__loader__" 168 ldr,E P "__spec__" 169 N0,E P "__annotations__" 170 (r 6),E P "__builtins__" 171 (r 4),E P "__file__" 173 (u 172),E P "__cached__" 174 N0,E P "ONE" 190 (s "one" 189),E P "WAYS" 192 (s "ways" 191),E P "SPLIT" 194 (s "split" 193),E P "JUMP" 196 (s "jump" 195),E P "MARK" 198 (s "mark" 197),E P "NAME" 200 (s "name" 199),E P "SET" 202 (s "set" 201),E P "GAIN" 204 (s "gain" 203),E P "PLACE" 206 (s "place" 205),E P "ASK" 208 (s "ask" 207),E P "FENCE" 210 (s "fence" 209),E P "FAIL" 212 (s "fail" 211),E P "ABORT" 214 (s "abort" 213),E P "SUCCEED" 216 (s "succeed" 215),E P "DONE" 218 (s "done" 217),E P "PUT" 220 (s "put" 219),E P "EMIT" 222 (s "emit" 221),E P "OPEN" 224 (s "open" 223),E P "SHUT" 226 (s "shut" 225),E P "MEET" 228 (s "meet" 227),E P "SINGLE" 240 (r 15),E P "ALONE" 245 (r 16),E P "row_of" 256 (r 23),E P "is_plain_text" 263 (r 30),E P "with_texts_joined" 272 (r 37),E P "PatternCode" 356 (r 94),E P "straightened" 366 (r 105),E P "compile_pattern" 374 (r 112),E P "SnobolError" 410 (r 132),E P "Failure" 430 (r 145),E P "Pattern" 459 (r 166),E P "Delayed" 488 (r 187),E P "NameRef" 521 (r 208),E P "is_fail" 528 (r 219),E P "fits" 536 (r 226),E P "whole_of_text" 547 (r 233),E P "text_of_whole" 556 (r 240),E P "to_whole" 564 (r 247),E P "to_text" 571 (r 254),E P "need_text" 579 (r 261),E P "COUNTED" 587 (r 262),E P "SIGNED" 592 (r 263),E P "WIDTH_OF_COUNT" 594 (vi 64 593),E P "plain_count" 604 (r 271),E P "plain_signs" 613 (r 278),E P "pattern_of" 621 (r 285),E P "is_delayed" 628 (r 292),E P "settled" 637 (r 299),E P "OPENING" 641 (s "(" 640),E P "CLOSING" 643 (s ")" 642),E P "chars_end" 653 (r 306),E P "len_end" 662 (r 313),E P "pos_end" 670 (r 320),E P "rpos_end" 679 (r 327),E P "tab_end" 688 (r 334),E P "rtab_end" 698 (r 341),E P "rem_end" 705 (r 348),E P "any_at" 714 (r 355),E P "notany_at" 723 (r 362),E P "run_end" 733 (r 369),E P "span_end" 743 (r 376),E P "break_end" 753 (r 383),E P "arb_ends" 761 (r 390),E P "bal_end" 770 (r 397),E P "bal_ends" 780 (r 404),E P "one_end" 790 (r 411),E P "plain_end" 799 (r 418),E P "ends_of" 810 (r 425),E P "MET" 814 (vi 0 813),E P "FAILED" 816 (vi 1 815),E P "OVER" 818 (vi 2 817),E P "Way" 865 (r 449),E P "Match" 980 (r 526),E P "named_rows" 989 (r 537),E P "match_orders" 1002 (r 544),E P "match_compiled" 1012 (r 551),E P "PlainHost" 1074 (r 589),E P "LOST" 1078 (s "lost" 1077),E P "match_plain" 1090 (r 600),E P "match_at" 1101 (r 607),E P "tried" 1116 (r 614),E P "advanced" 1132 (r 621),E P "led_in" 1144 (r 628),E P "led_out" 1160 (r 635),E P "steered" 1172 (r 642),E P "taken" 1189 (r 649),E P "_law_next" 1201 (r 656),E P "_law_subject" 1207 (r 661),E P "_law_shortest" 1216 (r 668),E P "_law_prime" 1224 (r 675),E P "law" 1242 (r 682)] 100
noncomputable def o740:Obj:=fl N0 [(j 24),j0,(r 22),(j 33),j0,(r 29),(j 35),j0,(r 36),(j 45),j0,(r 43),(j 106),j0,(r 104),(j 116),j0,(r 111),(j 122),j0,(r 119),(j 128),j0,(r 141),(j 130),j0,(r 155),(j 134),j0,(r 176),(j 138),j0,(r 197),(j 144),j0,(r 218),(j 146),j0,(r 225),(j 148),j0,(r 232),(j 161),j0,(r 239),(j 167),j0,(r 246),(j 171),j0,(r 253),(j 175),j0,(r 260),(j 184),j0,(r 270),(j 191),j0,(r 277),(j 196),j0,(r 284),(j 205),j0,(r 291),(j 207),j0,(r 298),(j 219),j0,(r 305),(j 222),j0,(r 312),(j 224),j0,(r 319),(j 226),j0,(r 326),(j 228),j0,(r 333),(j 230),j0,(r 340),(j 233),j0,(r 347),(j 235),j0,(r 354),(j 237),j0,(r 361),(j 239),j0,(r 368),(j 243),j0,(r 375),(j 246),j0,(r 382),(j 249),j0,(r 389),(j 251),j0,(r 396),(j 264),j0,(r 403),(j 270),j0,(r 410),(j 290),j0,(r 417),(j 292),j0,(r 424),(j 305),j0,(r 431),(j 317),j0,(r 459),(j 425),j0,(r 536),(j 432),j0,(r 543),(j 440),j0,(r 550),(j 443),j0,(r 557),(j 471),j0,(r 599),(j 477),j0,(r 606),(j 480),j0,(r 613),(j 498),j0,(r 620),(j 513),j0,(r 627),(j 524),j0,(r 634),(j 531),j0,(r 641),(j 539),j0,(r 648),(j 556),j0,(r 655),(j 562),j0,(r 660),(j 572),j0,(r 667),(j 578),j0,(r 674),(j 583),j0,(r 681)]
noncomputable def o743:Obj:=sq [(s "script" 1228),(s "feed" 1229),(s "subject" 1230),(s "is_strokes" 1231),(s "again" 1232),(s "word" 1233),(s "node" 1234),(s "due" 1235),(s "one" 1236),(s "other" 1237),(s "found" 1238),(s "told" 1239)]
noncomputable def o745:Obj:=f0 "law" "law" (st 98)
noncomputable def o746:Obj:=fl (VT "code") [(s "law" 1225),(s "law" 1226),(u 1227),(j 583),(j 1),j0,j0,(j 3),(r 676),bt,(j 181),(r 677),N0,(r 678),(r 679),(r 680),(j 1240),(j 583),(u 1241)]
noncomputable def o747:Obj:=f1 "law" "law" (st 98) 3 (s "law_sa0605_01" 1190) 681
noncomputable def l47 (P:Params):List Obj:=[(boot_o_0 P),(boot_o_1 P),(boot_o_2 P),(boot_o_3 P),(boot_o_4 P),(boot_o_5 P),(boot_o_6 P),(boot_o_7 P),(boot_o_8 P),(boot_o_9 P),(boot_o_10 P),o43,o44,o45,o46]
noncomputable def t47 (P:Params):BT:=mkT 12 (l47 P)
noncomputable def l73 (P:Params):List Obj:=(((l47 P).set 3 (o49 P)).set 12 o50)++[o51,o52,o43,o44,o55,o43,o57,o58,o59,o43,o44,o62,o43,o64,o65,o66,o43,o44,o69,o43,o71,o72,o73]
noncomputable def t73 (P:Params):BT:=mkT 12 (l73 P)
noncomputable def l136 (P:Params):List Obj:=(((l73 P).set 3 (o74 P)).set 12 o75)++[o43,o77,(o78 P),o43,o80,o81,o82,o43,o44,o85,o43,o87,o88,o89,o43,o44,o92,o43,o94,o95,o96,o43,o44,o99,o43,o101,o102,o103,o43,o44,o106,o107,o108,o43,o44,o111,o43,o113,o114,o115,o43,o44,o118,o43,o120,o121,o122,o43,o44,o125,o43,o127,o128,o129,o130,(o131 P),o132,o133,o134,o135,o136]
noncomputable def t136 (P:Params):BT:=mkT 12 (l136 P)
noncomputable def l176 (P:Params):List Obj:=((((l136 P).set 2 (o137 P)).set 3 (o138 P)).set 12 o139)++[o43,o44,o142,o43,o144,o145,o146,o43,o44,o149,o43,o151,o152,o153,o154,o77,(o156 P),o157,o43,o159,o160,o161,o162,o163,o164,o44,o166,o43,o168,o169,o170,o171,(o172 P),o173,o174,o175,o176]
noncomputable def t176 (P:Params):BT:=mkT 12 (l176 P)
noncomputable def l192 (P:Params):List Obj:=(((l176 P).set 3 (o177 P)).set 12 o178)++[o43,o77,(o181 P),o43,o44,o184,o185,o43,(o187 P),o188,o189,o190,o191,o192]
noncomputable def t192 (P:Params):BT:=mkT 12 (l192 P)
noncomputable def l215 (P:Params):List Obj:=(((l192 P).set 3 (o193 P)).set 12 o194)++[o43,o77,(o197 P),o43,o199,o200,o201,o43,o44,o204,o43,o206,o207,o208,o209,(o210 P),o211,o212,o213,o214,o215]
noncomputable def t215 (P:Params):BT:=mkT 12 (l215 P)
noncomputable def l238 (P:Params):List Obj:=(((l215 P).set 3 (o216 P)).set 12 o217)++[o43,o77,(o220 P),o43,o222,o223,o224,o43,o44,o227,o43,o229,o230,o231,o232,(o233 P),o234,o235,o236,o237,o238]
noncomputable def t238 (P:Params):BT:=mkT 12 (l238 P)
noncomputable def l296 (P:Params):List Obj:=(((l238 P).set 3 (o239 P)).set 12 o240)++[o43,o77,(o243 P),o43,o245,o246,o247,o43,o44,o250,o43,o252,o253,o254,o255,(o256 P),o257,o258,o259,o260,o261,o43,o44,o264,o43,o266,o267,o268,o43,o44,o271,o43,o273,o274,o275,o43,o44,o278,o43,o280,o281,o282,o43,o44,o285,o43,o287,o288,o289,o43,o44,o292,o43,o294,o295,o296]
noncomputable def t296 (P:Params):BT:=mkT 12 (l296 P)
noncomputable def l371 (P:Params):List Obj:=(((l296 P).set 3 (o297 P)).set 12 o298)++[o43,o44,o301,o43,o303,o304,o305,o43,o44,o308,o43,o310,o311,o312,o313,o314,o315,o43,o44,o318,o43,o320,o321,o322,o43,o44,o325,o43,o327,o328,o329,o43,o44,o332,o43,o334,o335,o336,o43,o44,o339,o43,o341,o342,o343,o43,o44,o346,o43,o348,o349,o350,o43,o44,o353,o43,o355,o356,o357,o43,o44,o360,o43,o362,o363,o364,o43,o44,o367,o43,o369,o370,o371]
noncomputable def t371 (P:Params):BT:=mkT 12 (l371 P)
noncomputable def l457 (P:Params):List Obj:=(((l371 P).set 3 (o372 P)).set 12 o373)++[o43,o44,o376,o43,o378,o379,o380,o43,o44,o383,o43,o385,o386,o387,o43,o44,o390,o43,o392,o393,o394,o43,o44,o397,o43,o399,o400,o401,o43,o44,o404,o43,o406,o407,o408,o43,o44,o411,o43,o413,o414,o415,o43,o44,o418,o43,o420,o421,o422,o43,o44,o425,o43,o427,o428,o429,o43,o44,o432,o43,o434,o435,o436,o43,o44,o439,o43,o441,o442,o443,o43,o44,o446,o43,o448,o449,o450,o43,o44,o453,o43,o455,o456,o457]
noncomputable def t457 (P:Params):BT:=mkT 12 (l457 P)
noncomputable def l508 (P:Params):List Obj:=(((l457 P).set 3 (o458 P)).set 12 o459)++[o43,o44,o462,o43,o464,o465,o466,o43,o44,o469,o43,o471,o472,o473,o43,o44,o476,o43,o478,o479,o480,o43,o77,(o483 P),o43,o485,o486,o487,o43,o44,o490,o43,o492,o493,o494,o43,o44,o497,o43,o499,o500,o501,o502,(o503 P),o504,o505,o506,o507,o508]
noncomputable def t508 (P:Params):BT:=mkT 12 (l508 P)
noncomputable def l587 (P:Params):List Obj:=(((l508 P).set 3 (o509 P)).set 12 o510)++[o43,o77,(o513 P),o43,o515,o516,o517,o43,o44,o520,o43,o522,o523,o524,o43,o44,o527,o43,o529,o530,o531,o43,o44,o534,o43,o536,o537,o538,o43,o44,o541,o43,o543,o544,o545,o43,o44,o548,o43,o550,o551,o552,o43,o44,o555,o43,o557,o558,o559,o43,o44,o562,o43,o564,o565,o566,o43,o44,o569,o43,o571,o572,o573,o43,o44,o576,o43,o578,o579,o580,o581,(o582 P),o583,o584,o585,o586,o587]
noncomputable def t587 (P:Params):BT:=mkT 12 (l587 P)
noncomputable def l610 (P:Params):List Obj:=(((l587 P).set 3 (o588 P)).set 12 o589)++[o43,o44,o592,o43,o594,o595,o596,o43,o44,o599,o43,o601,o602,o603,o43,o44,o606,o43,o608,o609,o610]
noncomputable def t610 (P:Params):BT:=mkT 12 (l610 P)
noncomputable def l661 (P:Params):List Obj:=(((l610 P).set 3 (o611 P)).set 12 o612)++[o43,o77,(o615 P),o43,o617,o618,o619,o43,o44,o622,o43,o624,o625,o626,o43,o44,o629,o43,o631,o632,o633,o43,o44,o636,o43,o638,o639,o640,o43,o44,o643,o43,o645,o646,o647,o648,(o649 P),o650,o651,o652,o653,o654,o43,o44,o657,o43,o659,o660,o661]
noncomputable def t661 (P:Params):BT:=mkT 12 (l661 P)
noncomputable def l738 (P:Params):List Obj:=(((l661 P).set 3 (o662 P)).set 12 o663)++[o43,o44,o666,o43,o668,o669,o670,o43,o44,o673,o43,o675,o676,o677,o43,o44,o680,o43,o682,o683,o684,o43,o44,o687,o43,o689,o690,o691,o43,o44,o694,o43,o696,o697,o698,o43,o44,o701,o43,o703,o704,o705,o43,o44,o708,o43,o710,o711,o712,o43,o44,o715,o43,o717,o718,o719,o43,o44,o722,o723,o724,o43,o44,o727,o43,o729,o730,o731,o43,o44,o734,o43,o736,o737,o738]
noncomputable def t738 (P:Params):BT:=mkT 12 (l738 P)
noncomputable def l747 (P:Params):List Obj:=(((l738 P).set 3 (o739 P)).set 12 o740)++[o43,o44,o743,o43,o745,o746,o747]
noncomputable def t747 (P:Params):BT:=mkT 12 (l747 P)
noncomputable def h46 (P:Params):Heap:=⟨⟨l47 P⟩,{}⟩
noncomputable def h748 (P:Params):Heap:=⟨⟨l747 P⟩,{}⟩
noncomputable def sts49:List Stmt:=((behindTheImports PW).drop 0).take 26
noncomputable def sts74:List Stmt:=((behindTheImports PW).drop 26).take 1
noncomputable def sts137:List Stmt:=((behindTheImports PW).drop 27).take 4
noncomputable def sts177:List Stmt:=((behindTheImports PW).drop 31).take 1
noncomputable def sts193:List Stmt:=((behindTheImports PW).drop 32).take 1
noncomputable def sts216:List Stmt:=((behindTheImports PW).drop 33).take 1
noncomputable def sts239:List Stmt:=((behindTheImports PW).drop 34).take 6
noncomputable def sts297:List Stmt:=((behindTheImports PW).drop 40).take 17
noncomputable def sts372:List Stmt:=((behindTheImports PW).drop 57).take 12
noncomputable def sts458:List Stmt:=((behindTheImports PW).drop 69).take 8
noncomputable def sts509:List Stmt:=((behindTheImports PW).drop 77).take 1
noncomputable def sts588:List Stmt:=((behindTheImports PW).drop 78).take 4
noncomputable def sts611:List Stmt:=((behindTheImports PW).drop 82).take 4
noncomputable def sts662:List Stmt:=((behindTheImports PW).drop 86).take 12
noncomputable def sts739:List Stmt:=((behindTheImports PW).drop 98).take 1
noncomputable def env:Env:=⟨PW.main.scope,mainNs,mainNs,[],Str.empty,none,(r 13),(some 14),0⟩
noncomputable def bdK (l:List Stmt):List Nat→List Stmt | []=>[] | k::r=>l.getD k default::bdK l r
noncomputable def view:Program:={ PW with main:={ PW.main with body:=bdK PW.main.body [1,2,3,4,5,6,7,8,9,10,11,12,13,14,15,16,17,18,19,20,21,22,23,24,25,26,27,28,30,31,32,33,34,35,36,37,38,39,40,41,43,44,45,47,48,49,50,52,53,54,55,56,57,58,59,60,61,62,63,64,65,66,67,68,69,70,71,73,74,75,76,77,78,79,80,82,84,85,86,87,88,89,90,91,92,94,95,96,97,98] } }
noncomputable def c0:Code:=.body (behindTheImports PW) env
noncomputable def KF (P:Params):Frag:=[(2,o137 P),(3,o739 P),(15,o51),(16,o52),(17,o43),(19,o55),(20,o43),(22,o58),(23,o59),(24,o43),(26,o62),(27,o43),(29,o65),(30,o66),(31,o43),(33,o69),(34,o43),(36,o72),(37,o73),(45,o43),(47,o85),(48,o43),(50,o88),(51,o89),(52,o43),(54,o92),(55,o43),(57,o95),(58,o96),(59,o43),(61,o99),(62,o43),(64,o102),(65,o103),(66,o43),(69,o107),(70,o108),(71,o43),(73,o111),(74,o43),(76,o114),(77,o115),(78,o43),(80,o118),(81,o43),(83,o121),(84,o122),(85,o43),(87,o125),(88,o43),(90,o128),(91,o129),(92,o130),(93,o131 P),(94,o132),(95,o133),(96,o134),(99,o43),(101,o142),(102,o43),(104,o145),(105,o146),(106,o43),(108,o149),(109,o43),(111,o152),(112,o153),(113,o154),(116,o157),(121,o162),(122,o163),(123,o164),(125,o166),(126,o43),(128,o169),(129,o170),(130,o171),(131,o172 P),(132,o173),(133,o174),(143,o43),(144,o187 P),(145,o188),(146,o189),(147,o190),(157,o43),(159,o204),(160,o43),(162,o207),(163,o208),(164,o209),(165,o210 P),(166,o211),(167,o212),(168,o213),(178,o43),(180,o227),(181,o43),(183,o230),(184,o231),(185,o232),(186,o233 P),(187,o234),(188,o235),(189,o236),(199,o43),(201,o250),(202,o43),(204,o253),(205,o254),(206,o255),(207,o256 P),(208,o257),(209,o258),(210,o259),(213,o43),(215,o264),(216,o43),(218,o267),(219,o268),(220,o43),(222,o271),(223,o43),(225,o274),(226,o275),(227,o43),(229,o278),(230,o43),(232,o281),(233,o282),(234,o43),(236,o285),(237,o43),(239,o288),(240,o289),(241,o43),(243,o292),(244,o43),(246,o295),(247,o296),(248,o43),(250,o301),(251,o43),(253,o304),(254,o305),(255,o43),(257,o308),(258,o43),(260,o311),(261,o312),(262,o313),(263,o314),(264,o315),(265,o43),(267,o318),(268,o43),(270,o321),(271,o322),(272,o43),(274,o325),(275,o43),(277,o328),(278,o329),(279,o43),(281,o332),(282,o43),(284,o335),(285,o336),(286,o43),(288,o339),(289,o43),(291,o342),(292,o343),(293,o43),(295,o346),(296,o43),(298,o349),(299,o350),(300,o43),(302,o353),(303,o43),(305,o356),(306,o357),(307,o43),(309,o360),(310,o43),(312,o363),(313,o364),(314,o43),(316,o367),(317,o43),(319,o370),(320,o371),(321,o43),(323,o376),(324,o43),(326,o379),(327,o380),(328,o43),(330,o383),(331,o43),(333,o386),(334,o387),(335,o43),(337,o390),(338,o43),(340,o393),(341,o394),(342,o43),(344,o397),(345,o43),(347,o400),(348,o401),(349,o43),(351,o404),(352,o43),(354,o407),(355,o408),(356,o43),(358,o411),(359,o43),(361,o414),(362,o415),(363,o43),(365,o418),(366,o43),(368,o421),(369,o422),(370,o43),(372,o425),(373,o43),(375,o428),(376,o429),(377,o43),(379,o432),(380,o43),(382,o435),(383,o436),(384,o43),(386,o439),(387,o43),(389,o442),(390,o443),(391,o43),(393,o446),(394,o43),(396,o449),(397,o450),(398,o43),(400,o453),(401,o43),(403,o456),(404,o457),(405,o43),(407,o462),(408,o43),(410,o465),(411,o466),(412,o43),(414,o469),(415,o43),(417,o472),(418,o473),(419,o43),(421,o476),(422,o43),(424,o479),(425,o480),(433,o43),(435,o490),(436,o43),(438,o493),(439,o494),(440,o43),(442,o497),(443,o43),(445,o500),(446,o501),(447,o502),(448,o503 P),(449,o504),(450,o505),(451,o506),(461,o43),(463,o520),(464,o43),(466,o523),(467,o524),(468,o43),(470,o527),(471,o43),(473,o530),(474,o531),(475,o43),(477,o534),(478,o43),(480,o537),(481,o538),(482,o43),(484,o541),(485,o43),(487,o544),(488,o545),(489,o43),(491,o548),(492,o43),(494,o551),(495,o552),(496,o43),(498,o555),(499,o43),(501,o558),(502,o559),(503,o43),(505,o562),(506,o43),(508,o565),(509,o566),(510,o43),(512,o569),(513,o43),(515,o572),(516,o573),(517,o43),(519,o576),(520,o43),(522,o579),(523,o580),(524,o581),(525,o582 P),(526,o583),(527,o584),(528,o585),(531,o43),(533,o592),(534,o43),(536,o595),(537,o596),(538,o43),(540,o599),(541,o43),(543,o602),(544,o603),(545,o43),(547,o606),(548,o43),(550,o609),(551,o610),(559,o43),(561,o622),(562,o43),(564,o625),(565,o626),(566,o43),(568,o629),(569,o43),(571,o632),(572,o633),(573,o43),(575,o636),(576,o43),(578,o639),(579,o640),(580,o43),(582,o643),(583,o43),(585,o646),(586,o647),(587,o648),(588,o649 P),(589,o650),(590,o651),(591,o652),(594,o43),(596,o657),(597,o43),(599,o660),(600,o661),(601,o43),(603,o666),(604,o43),(606,o669),(607,o670),(608,o43),(610,o673),(611,o43),(613,o676),(614,o677),(615,o43),(617,o680),(618,o43),(620,o683),(621,o684),(622,o43),(624,o687),(625,o43),(627,o690),(628,o691),(629,o43),(631,o694),(632,o43),(634,o697),(635,o698),(636,o43),(638,o701),(639,o43),(641,o704),(642,o705),(643,o43),(645,o708),(646,o43),(648,o711),(649,o712),(650,o43),(652,o715),(653,o43),(655,o718),(656,o719),(657,o43),(660,o723),(661,o724),(662,o43),(664,o727),(665,o43),(667,o730),(668,o731),(669,o43),(671,o734),(672,o43),(674,o737),(675,o738),(676,o43),(678,o743),(679,o43),(681,o746),(682,o747)]
noncomputable def KA:List Nat:=[2,3,15,16,17,19,20,22,23,24,26,27,29,30,31,33,34,36,37,45,47,48,50,51,52,54,55,57,58,59,61,62,64,65,66,69,70,71,73,74,76,77,78,80,81,83,84,85,87,88,90,91,92,93,94,95,96,99,101,102,104,105,106,108,109,111,112,113,116,121,122,123,125,126,128,129,130,131,132,133,143,144,145,146,147,157,159,160,162,163,164,165,166,167,168,178,180,181,183,184,185,186,187,188,189,199,201,202,204,205,206,207,208,209,210,213,215,216,218,219,220,222,223,225,226,227,229,230,232,233,234,236,237,239,240,241,243,244,246,247,248,250,251,253,254,255,257,258,260,261,262,263,264,265,267,268,270,271,272,274,275,277,278,279,281,282,284,285,286,288,289,291,292,293,295,296,298,299,300,302,303,305,306,307,309,310,312,313,314,316,317,319,320,321,323,324,326,327,328,330,331,333,334,335,337,338,340,341,342,344,345,347,348,349,351,352,354,355,356,358,359,361,362,363,365,366,368,369,370,372,373,375,376,377,379,380,382,383,384,386,387,389,390,391,393,394,396,397,398,400,401,403,404,405,407,408,410,411,412,414,415,417,418,419,421,422,424,425,433,435,436,438,439,440,442,443,445,446,447,448,449,450,451,461,463,464,466,467,468,470,471,473,474,475,477,478,480,481,482,484,485,487,488,489,491,492,494,495,496,498,499,501,502,503,505,506,508,509,510,512,513,515,516,517,519,520,522,523,524,525,526,527,528,531,533,534,536,537,538,540,541,543,544,545,547,548,550,551,559,561,562,564,565,566,568,569,571,572,573,575,576,578,579,580,582,583,585,586,587,588,589,590,591,594,596,597,599,600,601,603,604,606,607,608,610,611,613,614,615,617,618,620,621,622,624,625,627,628,629,631,632,634,635,636,638,639,641,642,643,645,646,648,649,650,652,653,655,656,657,660,661,662,664,665,667,668,669,671,672,674,675,676,678,679,681,682]
theorem kok:∀ P,KA=(KF P).map (·.1):=fun _=>by kernel_rfl
noncomputable abbrev H:Hook:=kHook KF KA kok
noncomputable abbrev q0:Pos:=⟨0,0,0,0⟩
noncomputable abbrev B0:List Frame:=[topFrame q0]
noncomputable abbrev an:Option Value:=some (.ref 6)
noncomputable def T (t:Params→BT) (n k:Nat) (w:World) (os:OsState):SharedT:=⟨t w.params,n,{},⟨[]⟩,{},k,os⟩
noncomputable def F1 (w:World) (os:OsState):Shared:=⟨h748 w.params,⟨[]⟩,{},1243,os⟩
noncomputable def loose:List Str:=[S "SnobolError",S "plain_count"]
noncomputable def Xt (s:Shared):Bool:=xlAt view [] s && recOk PySem.Challenge.rw_sa0605_01.row.records s
theorem segT_via {p w m0 ann one n s th r} (h:Fast.tw10110043849684766642 Fast.tw14364793385576792824 p w m0 ann one n s th=r):segRunT treeTable p w m0 ann one n s th=r:=by
  rw [Fast.te10110043849684766642,Fast.te14364793385576792824]; exact h
theorem p0 (w:World) (os:OsState):segRunT treeTable PW w 11 an 1 318 (T t47 15 187 w os) (piecesOf sts49 env c0 ⟨0,0,0,0⟩ B0)=some (.next,T t73 38 273 w os,c0,⟨35,0,44,16⟩):=segT_via (by kernel_rfl)
theorem p1 (w:World) (os:OsState):segRunT treeTable PW w 11 an 1 420 (T t73 38 273 w os) (piecesOf sts74 env c0 ⟨35,0,44,16⟩ B0)=some (.next,T t136 99 357 w os,c0,⟨45,0,105,58⟩):=segT_via (by kernel_rfl)
theorem p2 (w:World) (os:OsState):segRunT treeTable PW w 11 an 1 320 (T t136 99 357 w os) (piecesOf sts137 env c0 ⟨45,0,105,58⟩ B0)=some (.next,T t176 136 411 w os,c0,⟨122,0,127,24⟩):=segT_via (by kernel_rfl)
theorem p3 (w:World) (os:OsState):segRunT treeTable PW w 11 an 1 191 (T t176 136 411 w os) (piecesOf sts177 env c0 ⟨122,0,127,24⟩ B0)=some (.next,T t192 150 431 w os,c0,⟨128,0,129,8⟩):=segT_via (by kernel_rfl)
theorem p4 (w:World) (os:OsState):segRunT treeTable PW w 11 an 1 223 (T t192 150 431 w os) (piecesOf sts193 env c0 ⟨128,0,129,8⟩ B0)=some (.next,T t215 171 460 w os,c0,⟨130,0,133,24⟩):=segT_via (by kernel_rfl)
theorem p5 (w:World) (os:OsState):segRunT treeTable PW w 11 an 1 223 (T t215 171 460 w os) (piecesOf sts216 env c0 ⟨130,0,133,24⟩ B0)=some (.next,T t238 192 489 w os,c0,⟨134,0,137,24⟩):=segT_via (by kernel_rfl)
theorem p6 (w:World) (os:OsState):segRunT treeTable PW w 11 an 1 380 (T t238 192 489 w os) (piecesOf sts239 env c0 ⟨134,0,137,24⟩ B0)=some (.next,T t296 248 565 w os,c0,⟨167,0,170,74⟩):=segT_via (by kernel_rfl)
theorem p7 (w:World) (os:OsState):segRunT treeTable PW w 11 an 1 383 (T t296 248 565 w os) (piecesOf sts297 env c0 ⟨167,0,170,74⟩ B0)=some (.next,T t371 321 671 w os,c0,⟨224,0,225,38⟩):=segT_via (by kernel_rfl)
theorem p8 (w:World) (os:OsState):segRunT treeTable PW w 11 an 1 375 (T t371 321 671 w os) (piecesOf sts372 env c0 ⟨224,0,225,38⟩ B0)=some (.next,T t457 405 781 w os,c0,⟨264,0,269,16⟩):=segT_via (by kernel_rfl)
theorem p9 (w:World) (os:OsState):segRunT treeTable PW w 11 an 1 397 (T t457 405 781 w os) (piecesOf sts458 env c0 ⟨264,0,269,16⟩ B0)=some (.next,T t508 454 866 w os,c0,⟨305,0,316,80⟩):=segT_via (by kernel_rfl)
theorem p10 (w:World) (os:OsState):segRunT treeTable PW w 11 an 1 501 (T t508 454 866 w os) (piecesOf sts509 env c0 ⟨305,0,316,80⟩ B0)=some (.next,T t587 531 981 w os,c0,⟨317,0,424,19⟩):=segT_via (by kernel_rfl)
theorem p11 (w:World) (os:OsState):segRunT treeTable PW w 11 an 1 108 (T t587 531 981 w os) (piecesOf sts588 env c0 ⟨317,0,424,19⟩ B0)=some (.next,T t610 552 1015 w os,c0,⟨442,0,442,8⟩):=segT_via (by kernel_rfl)
theorem p12 (w:World) (os:OsState):segRunT treeTable PW w 11 an 1 378 (T t610 552 1015 w os) (piecesOf sts611 env c0 ⟨442,0,442,8⟩ B0)=some (.next,T t661 601 1091 w os,c0,⟨471,0,476,15⟩):=segT_via (by kernel_rfl)
theorem p13 (w:World) (os:OsState):segRunT treeTable PW w 11 an 1 382 (T t661 601 1091 w os) (piecesOf sts662 env c0 ⟨471,0,476,15⟩ B0)=some (.next,T t738 676 1225 w os,c0,⟨578,0,582,15⟩):=segT_via (by kernel_rfl)
theorem p14 (w:World) (os:OsState):segRunT treeTable PW w 11 an 1 41 (T t738 676 1225 w os) (piecesOf sts739 env c0 ⟨578,0,582,15⟩ B0)=some (.next,T t747 683 1243 w os,c0,⟨583,0,598,66⟩):=segT_via (by kernel_rfl)
theorem pre (w:World) (os:OsState):topGo treeTable PW w 11 an 12 ⟨boot_heap w.params,⟨[]⟩,boot_drawn,boot_toks,os⟩ (topStub PW)=some (⟨h46 w.params,⟨[]⟩,{},187,os⟩,⟨denote treeTable (.body (behindTheImports PW) env),c0,q0,B0⟩):=by
  rw [Fast.te15667345088766844465,Fast.te14364793385576792824,Fast.te11892475500146522536]; kernel_rfl
theorem blk (w:World) (os:OsState):segRun treeTable PW w 11 an 1 1 ⟨h46 w.params,⟨[]⟩,{},187,os⟩ (blockOf (behindTheImports PW) env c0 q0 B0)=some (.next,(T t47 15 187 w os).abs,c0,⟨0,0,0,0⟩):=by
  rw [Fast.te14374325043358763698,Fast.te14364793385576792824]; kernel_rfl
theorem fin (w:World) (os:OsState):topRun treeTable PW w 11 an 2 (T t747 683 1243 w os).abs ⟨doneF .next,c0,⟨583,0,598,66⟩,B0⟩=some (F1 w os):=by
  rw [Fast.te14082659384304107361,Fast.te14364793385576792824]; kernel_rfl
theorem stm:behindTheImports PW=sts49++(sts74++(sts137++(sts177++(sts193++(sts216++(sts239++(sts297++(sts372++(sts458++(sts509++(sts588++(sts611++(sts662++(sts739++([]))))))))))))))):=by kernel_rfl
theorem run (w:World) (os:OsState):topRun treeTable PW w 11 an (12+(1+(318+(420+(320+(191+(223+(223+(380+(383+(375+(397+(501+(108+(378+(382+(41+(2)))))))))))))))))) ⟨boot_heap w.params,⟨[]⟩,boot_drawn,boot_toks,os⟩ (topStub PW)=some (F1 w os) :=
  go_top (pre w os) (piece_block (blk w os) (by rw [stm]; exact piece_app (segRun_of (p0 w os)) (piece_app (segRun_of (p1 w os)) (piece_app (segRun_of (p2 w os)) (piece_app (segRun_of (p3 w os)) (piece_app (segRun_of (p4 w os)) (piece_app (segRun_of (p5 w os)) (piece_app (segRun_of (p6 w os)) (piece_app (segRun_of (p7 w os)) (piece_app (segRun_of (p8 w os)) (piece_app (segRun_of (p9 w os)) (piece_app (segRun_of (p10 w os)) (piece_app (segRun_of (p11 w os)) (piece_app (segRun_of (p12 w os)) (piece_app (segRun_of (p13 w os)) (piece_app (segRun_of (p14 w os)) (fin w os)))))))))))))))))
theorem e1:opening PW=plainProg PW.main.scope.names:=by kernel_rfl
theorem e2 (s:Shared):fenceModules? PW s=some s:=by kernel_rfl
theorem size (w:World):((boot_heap w.params).isNs mainGlobals && (⟨[]⟩:Array GenState).size == 0,(boot_heap w.params).objs.size,(boot_heap w.params).nsMap mainGlobals (S "__annotations__"))=(true,11,an):=by kernel_rfl
theorem l1 (w:World) (os:OsState):(staticsOk (importedModules PW.main.body) (boot_heap w.params) (h748 w.params) && namesBound PW (h748 w.params) && gensDone (F1 w os) && laidKept (boot_heap w.params) (h748 w.params))=true:=by kernel_rfl
theorem l2 (w:World) (os:OsState):seen ((recsOf view).map (·.name)) (ownsOf view) [] { F1 w os with gens:=#[] } = expectedOf view:=by rw [Fast.te5160383126252970620]; kernel_rfl
theorem l3 (w:World) (os:OsState):(F1 w os).heap.bltView=bltViewBooted:=by kernel_rfl
theorem l4 (w:World) (os:OsState):((F1 w os).heap.keysOk (looseW view loose) ((recsOf view).map (·.name)) ((litsOf view).map (·.1)) ((clssOf view (looseW view loose)).map (·.name)) && (F1 w os).heap.accountedOkI (importedModules PW.main.body) && (F1 w os).heap.isNs mainGlobals && (F1 w os).heap.isNs builtinsNs && tablesOk view (F1 w os).heap && Xt (F1 w os) && (if true then(F1 w os).gens.size == 0 else !leftWithCleanup (F1 w os).gens))=true:=by kernel_rfl
theorem l5 (w:World) (os:OsState):tabsOk view (F1 w os)=true:=by rw [Fast.te479339242167458305]; kernel_rfl
theorem l6 (w:World) (os:OsState):pinSeenD view (drecsOf view) (F1 w os)=pinGoodD (drecsOf view):=by kernel_rfl
theorem l7 (w:World) (os:OsState):plainSeenE view (looseW view loose) (F1 w os)=plainGoodE view (looseW view loose):=by rw [Fast.te2386780881361962483]; kernel_rfl
theorem l8 (w:World) (os:OsState):plainSeenD view loose (F1 w os)=plainGoodD view loose:=by kernel_rfl
theorem l9 (w:World) (os:OsState):wideSeen view (F1 w os)=wideGood view:=by rw [Fast.te7317090234206586261]; kernel_rfl
theorem l10 (w:World) (os:OsState):clsSeenW view loose (F1 w os)=clsGoodW view loose:=by kernel_rfl
theorem l11 (w:World) (os:OsState):H.obs (F1 w os)=H.val w:=by kernel_rfl
theorem hl:LeftO PW view loose Xt H.obs H.val 9376 true :=
  LeftO.of_pieces (H₀:=boot_heap) (H₁:=h748) (gs₀:=⟨[]⟩) (gs₁:=⟨[]⟩) (d₀:=boot_drawn) (d₁:={}) (k₀:=boot_toks) (k₁:=1243) (m₀:=11) (ann:=an) (M:=12+(1+(318+(420+(320+(191+(223+(223+(380+(383+(375+(397+(501+(108+(378+(382+(41+(2)))))))))))))))))) (boot_open e1 (by decide) e2) size run (by decide)
    fun w=>funext fun os=>looks_pair (l1 w os) (looks_pair (looks_pair (l2 w os) (looks_pair (l3 w os) (looks_pair (l4 w os) (looks_pair (l5 w os) (looks_pair (l6 w os) (looks_pair (l7 w os) (looks_pair (l8 w os) (looks_pair (l9 w os) (l10 w os))))))))) (l11 w os))
theorem well:PySem.Challenge.rw_sa0605_01.wellSaid=true:=by kernel_rfl
theorem dsome:(defOf view PySem.Challenge.rw_sa0605_01.row.name).isSome=true:=by kernel_rfl
noncomputable def dk:DefRec×List (Str×Expr):=(defOf view PySem.Challenge.rw_sa0605_01.row.name).get dsome
set_option maxHeartbeats 8000000 in
theorem top (hc:WalkO view loose (PySem.W.XL view []) H.says PySem.Challenge.rw_sa0605_01.row.toRowW dk.1 dk.2 fun f vs=>PySem.call f vs):PySem.Challenge.rw_sa0605_01.Holds:=by
  refine holds_law well fun said=>?_
  refine PySem.W.holds_open (q:=view) (loose:=loose) (Xt:=Xt) (XP:=PySem.W.XL view []) (Yf:=H.obs) (Ya:=H.val) (YP:=H.says) (d:=dk.1) (kwd:=dk.2) hl H.of H.keeps (fun s e=>xl_of s (Bool.and_eq_true_iff.mp e).1) PySem.W.XL.keeps (Option.some_get dsome).symm (by kernel_rfl) (by kernel_rfl) (fun s e=>recFacts_of (Bool.and_eq_true_iff.mp e).2) (by rfl) said (by decide +kernel) ⟨rfl,rfl,rfl,rfl,rfl,by decide +kernel⟩ ?hw hc
  case hw=>w_witness2
end HD
end Mine
namespace Mine
namespace L1
noncomputable def ca:List Nat:=[94,208,449,526,589,145,166,187,132]
noncomputable def GG (x:Str):Option GV:=Mine.lookG x gl
set_option maxRecDepth 100000 in
theorem ok1 (P:Params):surOk (HD.KF P) fa ca gl pg.cls=true:=by kernel_rfl
set_option maxRecDepth 100000 in
theorem ok2 (P:Params):chkFns GG (HD.KF P) fns fa=true:=by kernel_rfl
set_option maxRecDepth 100000 in
theorem lawAt (P:Params):nsIn (HD.KF P) mainGlobals (Str.ofString "law")=some (some (.ref 682)):=by kernel_rfl
end L1
end Mine
set_option maxRecDepth 100000 in
set_option maxHeartbeats 8000000 in
theorem PySem.Challenge.cw_sa0605_01_holds : PySem.Challenge.rw_sa0605_01.Holds := by
  refine Mine.HD.top ?_
  intro w s₀ s₁ mg mb G Y fa o pm cd doc dV kV ho hd hcd hD hmg hg args vals as hpre hlay hrd hwl hlo
  have KX:=kIn_of Y
  refine Ground.open G ?_
  intro T B D TE TW
  wrow_args hpre hlay hrd hwl hlo
  rename_i ns _ _ _ _ _ _ _ p ws _ hL _ _ _ hI _ hlen _
  have hfa:fa=682:=by
    have h1:=mg_of KX T.g (Mine.L1.lawAt w.params)
    have h2:mg (Str.ofString "law")=some (.ref fa):=hmg
    rw [h1] at h2
    cases h2
    rfl
  have hn:ns.length≤63:=by omega
  obtain⟨H',hc⟩:=Mine.Q.L1.law_ok hn
  clear hd hcd hD Y hmg ho
  subst hfa
  let S:Mine.Sur:=⟨PySem.Challenge.rw_sa0605_01.row.prog,w,Mine.L1.pg,Mine.HD.KF w.params,Mine.L1.fa,Mine.L1.ca,Mine.L1.GG,Mine.T0of (Mine.HD.KF w.params) p ws,s₁.heap⟩
  have C:Mine.Cx S:=Mine.cx_of (gl:=Mine.L1.gl) (p:=p) (ws:=ws) (fun _=>rfl) rfl KX T.nolimit T.g T.b T.builtins (Mine.L1.ok1 w.params) (Mine.L1.ok2 w.params)
  refine Mine.entry (S:=S) C (p:=p) (ws:=ws) (ns:=ns) (k:=76) (d:=100) (a:=682) rfl rfl hL hI (Nat.le_trans hn (by decide)) ⟨rfl,by decide +kernel,by decide +kernel⟩ rfl hc fun h' tk kp=>?_
  have hpost:PySem.Challenge.rw_sa0605_01.row.claim.post [ofPy (PyData.list (List.map PyData.int ns))] (WData.bool true) [ofPy (PyData.list (List.map PyData.int ns))] = true:=by
    first | rfl | wrow_post
  exact⟨.inl ⟨_,_,[],rfl,fun _=>rfl,ReadsW.bool true,hpost,fun _=>⟨List.nodup_nil,fun _ hm=>(nomatch hm)⟩⟩,.of_keep kp,rfl,by rw [hg]; exact AllBare.empty⟩
