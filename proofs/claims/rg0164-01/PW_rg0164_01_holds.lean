import PyProof.Rows.All
import Wide.All
import OpenK.AllK
import Wide.FinOn
import PySem.Challenge.RW_rg0164_01
set_option Elab.async false
set_option linter.all false
set_option bootstrap.genMatcherCode false
set_option genSizeOfSpec false
set_option genSizeOf false
set_option genInjectivity false
set_option backward.eqns.nonrecursive false
section
open PySem PySem.W PyProof.Rows PySem.SeqAt
set_option backward.match.sparseCases false
namespace VS.Internal
theorem byC{p:Prop}(h:¬ p→False):p:=Classical.byContradiction h
inductive V where
 | none
 | bool (b:Bool)
 | int (i:Int)
 | str (s:PySem.Str)
 | byt (b:Array UInt8)
 | tup (vs:List V)
 | ref (i:Nat)
 | sta (v:Value)
 | rng (n:Int)
 deriving Inhabited
inductive O where
 | inst (c:Addr) (fs:List (PySem.Str × V))
 | list (vs:List V)
 deriving Inhabited
abbrev Hp:=List O
structure Good{α:Type}(f:(α→Hp→Prop)→(Addr→Hp→Prop)→Prop):Prop where
 mono:∀{P P':α→Hp→Prop}{X X':Addr→Hp→Prop},f P X→(∀ a h,P a h→P' a h)→(∀ c h,X c h→X' c h)→f P' X'
 conj:∀{P P':α→Hp→Prop}{X X':Addr→Hp→Prop},f P X→f P' X'→f (λ a h=>P a h∧P' a h) (λ c h=>X c h∧X' c h)
 str:∀{p:Prop},f (λ _ _=>p) (λ _ _=>p)→p
structure R(α:Type) where
 f:(α→Hp→Prop)→(Addr→Hp→Prop)→Prop
 good:Good f
theorem R.f.mono{α:Type}{r:R α}{P P':α→Hp→Prop}{X X':Addr→Hp→Prop}(h:r.f P X)(hP:∀ a h,P a h→P' a h)(hX:∀ c h,X c h→X' c h):r.f P' X':=r.good.mono h hP hX
theorem good_ok{α:Type}(a:α)(h:Hp):Good λ P _=>P a h:=⟨λ q k _=>k _ _ q,λ p q=>⟨p,q⟩,id⟩
theorem good_exc{α:Type}(c:Addr)(h:Hp):Good (α:=α) λ _ X=>X c h:=⟨λ q _ k=>k _ _ q,λ p q=>⟨p,q⟩,id⟩
theorem good_no{α:Type}:Good (α:=α) λ _ _=>False:=⟨λ q _ _=>q,λ q _=>q,False.elim⟩
theorem good_then{α β:Type}(r:R α)(s:α→Hp→R β)(t:Addr→Hp→R β):Good λ P X=>r.f (λ a h=>(s a h).f P X) (λ c h=>(t c h).f P X):=
 ⟨λ q k l=>q.mono (λ _ _ q=>q.mono k l) λ _ _ q=>q.mono k l,
 λ p q=>(r.good.conj p q).mono (λ _ _ q=>(s _ _).good.conj q.1 q.2) λ _ _ q=>(t _ _).good.conj q.1 q.2,
 λ q=>r.good.str (q.mono (λ _ _ q=>(s _ _).good.str q) λ _ _ q=>(t _ _).good.str q)⟩
noncomputable def R.ok{α:Type}(a:α)(h:Hp):R α:=⟨λ P _=>P a h,good_ok a h⟩
noncomputable def R.exc{α:Type}(c:Addr)(h:Hp):R α:=⟨λ _ X=>X c h,good_exc c h⟩
noncomputable def R.no{α:Type}:R α:=⟨λ _ _=>False,good_no⟩
noncomputable def R.then{α β:Type}(r:R α)(s:α→Hp→R β)(t:Addr→Hp→R β):R β:=⟨λ P X=>r.f (λ a h=>(s a h).f P X) (λ c h=>(t c h).f P X),good_then r s t⟩
noncomputable def M(α:Type):=Hp→R α
noncomputable def M.pure{α:Type}(a:α):M α:=λ h=>.ok a h
noncomputable def M.bind{α β:Type}(m:M α)(f:α→M β):M β:=λ h=>(m h).then f .exc
noncomputable instance:Monad M where
 pure:=M.pure
 bind:=M.bind
noncomputable def no{α:Type}:M α:=λ _=>.no
noncomputable def raise{α:Type}(c:Addr):M α:=λ h=>.exc c h
noncomputable def ofO{α:Type}:Option α→M α
 | some a=>M.pure a
 | none=>no
noncomputable def alloc(o:O):M V:=λ h=>.ok (.ref h.length) (h++[o])
noncomputable def getO(i:Nat):M O:=λ h=>match h[i]? with
 | some o=>.ok o h
 | none=>.no
noncomputable def setO(i:Nat)(o:O):M Unit:=λ h=>.ok () (h.set i o)
abbrev Lo:=List (PySem.Str × V)
noncomputable def lk(x:PySem.Str)(l:Lo):Option V:=List.rec none (λ p _ i=>if p.1==x then some p.2 else i) l
noncomputable def put(x:PySem.Str)(v:V)(l:Lo):Lo:=List.rec [(x,v)] (λ p r i=>if p.1==x then(p.1,v)::r else p::i) l
theorem lk_cons{x y:PySem.Str}{v:V}{r:Lo}:lk x ((y,v)::r)=if y==x then some v else lk x r:=rfl
theorem put_cons{x y:PySem.Str}{v w:V}{r:Lo}:put x v ((y,w)::r)=if y==x then(y,v)::r else(y,w)::put x v r:=rfl
noncomputable def vInt(v:Value):Option Int:=if h:Nat.beq v.ctorIdx 4=true then PySem.Value.int.elim (motive:=λ _=>Option Int) v (Nat.eq_of_beq_eq_true h) λ i _=>some i else none
noncomputable def vRef(v:Value):Option Addr:=if h:Nat.beq v.ctorIdx 10=true then PySem.Value.ref.elim (motive:=λ _=>Option Addr) v (Nat.eq_of_beq_eq_true h) some else none
noncomputable def intK(v:Value):Option V:=(vInt v).elim (if Nat.beq v.ctorIdx 0 then some .none else none) λ i=>some (.int i)
noncomputable def intsOf(l:List Value):Option (List V):=List.rec (some []) (λ v _ i=>(intK v).bind λ w=>i.map (w :: ·)) l
noncomputable def isB(f:Value)(x:String):Bool:=if h:Nat.beq f.ctorIdx 9=true then PySem.Value.builtin.elim (motive:=λ _=>Bool) f (Nat.eq_of_beq_eq_true h) λ y=>y==x else false
noncomputable def isT(f:Value)(x:String):Bool:=if h:Nat.beq f.ctorIdx 8=true then PySem.Value.type.elim (motive:=λ _=>Bool) f (Nat.eq_of_beq_eq_true h) λ y=>y==x else false
noncomputable def seqD(d:Data):Option (List Value):=if h:Nat.beq d.ctorIdx 2=true then PySem.Data.seq.elim (motive:=λ _=>Option (List Value)) d (Nat.eq_of_beq_eq_true h) λ xs _=>some xs.toList else none
noncomputable def tupK(K:Frag)(a:Addr):Option (List V):=(K.lookup a).bind λ o=>if isT o.cls "tuple" && o.dict.isNone then(seqD o.data).bind intsOf else none
noncomputable def lstK(K:Frag)(a:Addr):Option (List V):=(K.lookup a).bind λ o=>if isT o.cls "list" then(seqD o.data).bind intsOf else none
theorem no_some{α:Type}{x:α}{p:Prop}(h:none=some x):p:=by cases h
theorem of_part{α:Type}{b:Bool}{t:b=true→Option α}{x:α}(h:(if h:b=true then t h else none)=some x):b=true:=by
 cases b with
 | false=>exact no_some h
 | true=>rfl
theorem isB_eq{f:Value}{x:String}(h:isB f x=true):f = .builtin x:=by
 have hb:Nat.beq f.ctorIdx 9=true:=by
  by_cases q:Nat.beq f.ctorIdx 9=true
  ·exact q
  ·cases (dif_neg q).symm.trans h
 revert h
 exact PySem.Value.builtin.elim f (Nat.eq_of_beq_eq_true hb) λ y h=>congrArg Value.builtin (eq_of_beq h)
theorem isT_eq{f:Value}{x:String}(h:isT f x=true):f = .type x:=by
 have hb:Nat.beq f.ctorIdx 8=true:=by
  by_cases q:Nat.beq f.ctorIdx 8=true
  ·exact q
  ·cases (dif_neg q).symm.trans h
 revert h
 exact PySem.Value.type.elim f (Nat.eq_of_beq_eq_true hb) λ y h=>congrArg Value.type (eq_of_beq h)
theorem vInt_is{v:Value}{i:Int}(h:vInt v=some i):∃ t,v = .int i t:=by
 have hb:=of_part h
 revert h
 exact PySem.Value.int.elim v (Nat.eq_of_beq_eq_true hb) λ j t h=>⟨t,congrArg (Value.int · t) (Option.some.inj h)⟩
theorem vRef_is{v:Value}{a:Addr}(h:vRef v=some a):v = .ref a:=by
 have hb:=of_part h
 revert h
 exact PySem.Value.ref.elim v (Nat.eq_of_beq_eq_true hb) λ j h=>congrArg Value.ref (Option.some.inj h)
theorem vNone_is{v:Value}(h:Nat.beq v.ctorIdx 0=true):v = .none:=PySem.Value.none.elim v (Nat.eq_of_beq_eq_true h) rfl
theorem bC{G:Prop}(b:Bool)(t:b=true→G)(f:b=false→G):G:=by
 cases b with
 | false=>exact f rfl
 | true=>exact t rfl
theorem iteP{c:Prop}[Decidable c]{A B:Prop}(h1:c→A)(h2:¬ c→B):if c then A else B:=by
 by_cases h:c
 ·rw [if_pos h];exact h1 h
 ·rw [if_neg h];exact h2 h
theorem oC{α:Type}{G:Prop}(o:Option α)(n:o=none→G)(s:∀ a,o=some a→G):G:=by
 cases o with
 | none=>exact n rfl
 | some a=>exact s a rfl
theorem elim_is{α β:Type}{o:Option α}{n:Option β}{f:α→Option β}{x:β}{G:Prop}(h:o.elim n f=some x)(hn:o=none→n=some x→G)(hs:∀ a,o=some a→f a=some x→G):G:=by
 cases o with
 | none=>exact hn rfl h
 | some a=>exact hs a rfl h
theorem iteO{α:Type}{b:Bool}{n:Option α}{x:α}(h:(if b then n else none)=some x):b=true∧n=some x:=by
 cases b with
 | false=>exact no_some h
 | true=>exact⟨rfl,h⟩
theorem iteN{α:Type}{b:Bool}{n:Option α}{x:α}(h:(if b then none else n)=some x):b=false∧n=some x:=by
 cases b with
 | false=>exact⟨rfl,h⟩
 | true=>exact no_some h
theorem bind_is{α β:Type}{o:Option α}{f:α→Option β}{x:β}{G:Prop}(h:o.bind f=some x)(k:∀ a,o=some a→f a=some x→G):G:=by
 cases o with
 | none=>exact no_some h
 | some a=>exact k a rfl h
theorem map_is{α β:Type}{o:Option α}{f:α→β}{x:β}{G:Prop}(h:o.map f=some x)(k:∀ a,o=some a→f a=x→G):G:=by
 cases o with
 | none=>exact no_some h
 | some a=>exact k a rfl (Option.some.inj h)
theorem seqD_is{d:Data}{l:List Value}(h:seqD d=some l):∃ xs n,d = .seq xs n∧xs.toList=l:=by
 have hb:=of_part h
 revert h
 exact PySem.Data.seq.elim d (Nat.eq_of_beq_eq_true hb) λ xs n h=>⟨xs,n,rfl,Option.some.inj h⟩
theorem obj_eq{o:Obj}{c:Value}{d:Option Addr}{x:Data}(h1:o.cls=c)(h2:o.dict=d)(h3:o.data=x):o=⟨c,d,x,o.slots⟩:=by subst h1 h2 h3;rfl
theorem lstK_is{K:Frag}{a:Addr}{vs:List V}(h:lstK K a=some vs):∃ od xs n sl,K.lookup a=some ⟨.type "list",od,.seq xs n,sl⟩∧intsOf xs.toList=some vs:=
 bind_is h λ o e h=>bind_is (iteO h).2 λ l h1 h2=>(seqD_is h1).elim λ xs q=>q.elim λ n q=>⟨o.dict,xs,n,o.slots,e.trans (congrArg some (obj_eq (isT_eq (iteO h).1) rfl q.1)),q.2▸h2⟩
theorem tupK_is{K:Frag}{a:Addr}{vs:List V}(h:tupK K a=some vs):∃ xs n sl,K.lookup a=some ⟨.type "tuple",none,.seq xs n,sl⟩∧intsOf xs.toList=some vs:=
 bind_is h λ o e h=>bind_is (iteO h).2 λ l h1 h2=>(seqD_is h1).elim λ xs q=>q.elim λ n q=>
  have z:=(Bool.and_eq_true _ _).mp (iteO h).1
  ⟨xs,n,o.slots,e.trans (congrArg some (obj_eq (isT_eq z.1) (Option.isNone_iff_eq_none.mp z.2) q.1)),q.2▸h2⟩
theorem intK_is{v:Value}{w:V}(h:intK v=some w):(v = .none∧w = .none)∨∃ i t,v = .int i t∧w = .int i:=by
 refine elim_is h (λ _ h=>?_) λ i e h=>?_
 ·have q:=iteO h
  exact .inl ⟨vNone_is q.1,(Option.some.inj q.2).symm⟩
 ·refine(vInt_is e).elim λ t q=>?_
  exact .inr ⟨i,t,q,(Option.some.inj h).symm⟩
noncomputable def valV(K:Frag)(v:Value):Option V:=(vInt v).elim ((vRef v).map λ a=>(tupK K a).elim (.sta (.ref a)) .tup) λ i=>some (.int i)
noncomputable def globV(K:Frag)(x:PySem.Str):Option V:=(nsIn K mainGlobals x).bind λ o=>o.elim (if x==("__name__" : PySem.Str) then none else(bootBuiltins x).map V.sta) (valV K)
noncomputable def onSome{α β:Type}(o:Option α)(k:α→M β):M β:=match o with
 | some a=>k a
 | none=>no
noncomputable def nameK(K:Frag)(ρ:Lo)(x:PySem.Str)(k:NameKind):M V:=match k with
 | .local=>ofO (lk x ρ)
 | .cell=>ofO (lk x ρ)
 | .free=>ofO (lk x ρ)
 | .globalImplicit=>ofO (globV K x)
 | _=>no
noncomputable def nameV(K:Frag)(sc:Scope)(ρ:Lo)(x:PySem.Str):M V:=
 if(x==("__debug__" : PySem.Str)||x==("__classdict__" : PySem.Str)) then no else onSome (sc.names.lookup x) (nameK K ρ x)
noncomputable def constV:Const→M V
 | .none=>pure .none
 | .bool b=>pure (.bool b)
 | .int i=>pure (.int i)
 | .str s=>pure (.str s)
 | .bytes b=>pure (.byt b.toArray)
 | _=>no
noncomputable def toPy(v:V):Option PyData:=V.rec (motive_1:=λ _=>Option PyData) (motive_2:=λ _=>Option (List PyData)) (some .none) (λ b=>some (.bool b)) (λ i=>some (.int i)) (λ _=>none) (λ _=>none) (λ _ t=>t.map .tuple) (λ _=>none) (λ _=>none) (λ _=>none) (some []) (λ _ _ d t=>d.bind λ d=>t.map (d :: ·)) v
noncomputable def toPys(vs:List V):Option (List PyData):=V.rec_1 (motive_1:=λ _=>Option PyData) (motive_2:=λ _=>Option (List PyData)) (some .none) (λ b=>some (.bool b)) (λ i=>some (.int i)) (λ _=>none) (λ _=>none) (λ _ t=>t.map .tuple) (λ _=>none) (λ _=>none) (λ _=>none) (some []) (λ _ _ d t=>d.bind λ d=>t.map (d :: ·)) vs
noncomputable def onRef{α:Type}(k:Nat→M α)(v:V):M α:=match v with
 | .ref i=>k i
 | _=>no
noncomputable def onInt{α:Type}(k:Int→M α)(v:V):M α:=match v with
 | .int i=>k i
 | _=>no
noncomputable def onBool{α:Type}(k:Bool→M α)(v:V):M α:=match v with
 | .bool i=>k i
 | _=>no
noncomputable def onSta{α:Type}(k:Value→M α)(v:V):M α:=match v with
 | .sta i=>k i
 | _=>no
noncomputable def onNone{α:Type}(k:M α)(v:V):M α:=match v with
 | .none=>k
 | _=>no
noncomputable def unT{α:Type}(v:V)(k:List V→M α):M α:=match v with
 | .tup vs=>k vs
 | _=>no
noncomputable def onInst{α:Type}(k:Addr→List (PySem.Str × V)→M α)(o:O):M α:=match o with
 | .inst c fs=>k c fs
 | .list _=>no
noncomputable def onL{α:Type}(k:List V→M α)(o:O):M α:=match o with
 | .list xs=>k xs
 | .inst ..=>no
noncomputable def intI(v:V):Option Int:=match v with
 | .int i=>some i
 | _=>none
noncomputable def refI(v:V):Option Nat:=match v with
 | .ref i=>some i
 | _=>none
noncomputable def peq0(a b:V):Option Bool:=(toPy a).bind λ d=>(toPy b).bind λ e=>if shaped d&&shaped e then some (PyData.eqv d e) else none
noncomputable def peq(a b:V):Option Bool:=(intI a).elim (peq0 a b) λ i=>(intI b).elim (peq0 a b) λ j=>some (decide (i=j))
theorem intI_is{v:V}{i:Int}(h:intI v=some i):v = .int i:=by
 revert h
 cases v with
 | int j=>exact λ h=>congrArg V.int (Option.some.inj h)
 | _=>exact λ h=>no_some h
theorem refI_is{v:V}{i:Nat}(h:refI v=some i):v = .ref i:=by
 revert h
 cases v with
 | ref j=>exact λ h=>congrArg V.ref (Option.some.inj h)
 | _=>exact λ h=>no_some h
theorem peq0_int{i j:Int}:peq0 (.int i) (.int j)=some (decide (i=j)):=by
 show(if shaped (.int i)&&shaped (.int j) then some (PyData.eqv (.int i) (.int j)) else none)=_
 have s:∀ i,shaped (.int i)=true:=λ _=>rfl
 rw [s,s]
 by_cases h:i=j<;>simp [PyData.eqv,h]
theorem peq_eq{a b:V}:peq a b=peq0 a b:=by
 unfold peq
 refine oC (intI a) (λ e=>by rw [e];rfl) λ i e=>?_
 refine oC (intI b) (λ e'=>by rw [e,e'];rfl) λ j e'=>?_
 rw [e,e',intI_is e,intI_is e',peq0_int];rfl
noncomputable def peqs(a b:List V):Option Bool:=(toPys a).bind λ d=>(toPys b).bind λ e=>if shaped (.list d)&&shaped (.list e) then some (PyData.eqvAll d e) else none
noncomputable def eqV(a b:V):M Bool:=match refI a with
 | none=>ofO (peq a b)
 | some i=>match refI b with
  | none=>ofO (peq a b)
  | some j=>M.bind (getO i) (onL λ xs=>M.bind (getO j) (onL λ ys=>if xs.length=ys.length then ofO (peqs xs ys) else M.pure false))
noncomputable def intsV(l:List V):Option (List Int):=List.rec (some []) (λ v _ t=>(intI v).bind λ j=>t.map (j :: ·)) l
noncomputable def intIn(i:Int)(vs:List V):Option Bool:=(intsV vs).map λ ns=>ns.any (· == i)
noncomputable def intsC(f:Int→Int→Bool)(a b:V):M Bool:=onInt (λ i=>onInt (λ j=>M.pure (f i j)) b) a
noncomputable def isV(b:Bool)(a:V):M Bool:=if Nat.beq a.ctorIdx 7 then no else M.pure (Nat.beq a.ctorIdx 0==b)
noncomputable def cmpV(op:CmpOp)(a b:V):M Bool:=match op with
 | .Eq=>eqV a b
 | .NotEq=>M.bind (eqV a b) λ r=>M.pure (!r)
 | .Lt=>intsC (λ i j=>decide (i<j)) a b
 | .LtE=>intsC (λ i j=>decide (i≤j)) a b
 | .Gt=>intsC (λ i j=>decide (j<i)) a b
 | .GtE=>intsC (λ i j=>decide (j≤i)) a b
 | .Is=>onNone (isV true a) b
 | .IsNot=>onNone (isV false a) b
 | .In=>onInt (λ i=>unT b λ vs=>ofO (intIn i vs)) a
 | .NotIn=>onInt (λ i=>unT b λ vs=>M.bind (ofO (intIn i vs)) λ r=>M.pure (!r)) a
noncomputable def powOk(a b:Int):Bool:=decide (0≤b)&&decide (b≤100)&&decide (a.natAbs<2^64)
noncomputable def mulOk(a b:Int):Bool:=decide (a.natAbs<2^63)||decide (b.natAbs<2^63)
noncomputable def divOk(a b:Int):Bool:=decide (b≠0)&&decide (b.natAbs<2^63)
noncomputable def intsA(f:Int→Int→M V)(a b:V):M V:=onInt (λ i=>onInt (f i) b) a
noncomputable def addA(a b:V):M V:=match a with
 | .tup xs=>unT b λ ys=>if xs.length+ys.length≤1000 then M.pure (.tup (xs++ys)) else no
 | .ref i=>onRef (λ j=>M.bind (getO i) (onL λ xs=>M.bind (getO j) (onL λ ys=>if xs.length+ys.length≤1000 then alloc (.list (xs++ys)) else no))) b
 | _=>intsA (λ i j=>M.pure (.int (i+j))) a b
noncomputable def binV(op:Operator)(a b:V):M V:=match op with
 | .Add=>addA a b
 | .Sub=>intsA (λ i j=>M.pure (.int (i-j))) a b
 | .Mult=>intsA (λ i j=>if mulOk i j then M.pure (.int (i*j)) else no) a b
 | .FloorDiv=>intsA (λ i j=>if divOk i j then M.pure (.int (i.fdiv j)) else no) a b
 | .Mod=>intsA (λ i j=>if j=0 then no else M.pure (.int (i.fmod j))) a b
 | .Pow=>intsA (λ i j=>if powOk i j then M.pure (.int (i^j.toNat)) else no) a b
 | _=>no
noncomputable def asB(v:V):M Bool:=onBool M.pure v
noncomputable def asI(v:V):M Int:=onInt M.pure v
noncomputable def unV(op:UnaryOp)(a:V):M V:=match op with
 | .USub=>onInt (λ i=>M.pure (.int (-i))) a
 | .Not=>onBool (λ b=>M.pure (.bool (!b))) a
 | _=>no
noncomputable def notSta(v:V):Bool:=!Nat.beq v.ctorIdx 7
noncomputable def getA(K:Frag)(v:V)(x:PySem.Str):M V:=onRef (λ i=>M.bind (getO i) (onInst λ c fs=>onSome (findIn K (.ref c) x) λ r=>match r with
   | none=>onSome (lk x fs) λ v=>if notSta v then M.pure v else no
   | some w=>onSome (vInt w) λ k=>if(lk x fs).isSome||copiedNames.contains x then no else M.pure (.int k))) v
noncomputable def setA(K:Frag)(v:V)(x:PySem.Str)(w:V):M Unit:=onRef (λ i=>M.bind (getO i) (onInst λ c fs=>onSome (findIn K (.ref c) x) λ r=>if r.isNone&&decide (fs.length≤900) then setO i (.inst c (put x w fs)) else no)) v
noncomputable def idx(k:Int)(n:Nat):Option Nat:=
 if 0≤k then(if k<n then some k.toNat else none) else(if -(n:Int)≤k then some (k+n).toNat else none)
noncomputable def itemI(k:Int)(xs:List V):M V:=if xs.length≤1000 then onSome (idx k xs.length) (λ j=>ofO xs[j]?) else no
noncomputable def getI(a b:V):M V:=onInt (λ k=>match a with
 | .tup xs=>itemI k xs
 | .ref i=>M.bind (getO i) (onL (itemI k))
 | _=>no) b
noncomputable def setI(a b w:V):M Unit:=onInt (λ k=>onRef (λ i=>M.bind (getO i) (onL λ xs=>if 0≤k∧k<xs.length∧xs.length≤1000 then setO i (.list (xs.set k.toNat w)) else no)) a) b
noncomputable def partI(v:V):Option (Option Int):=match v with
 | .none=>some none
 | .int k=>some (some k)
 | _=>none
noncomputable def cutL(lo hi:Option Int)(xs:List V):List V:=(xs.drop (kms_lo lo xs.length)).take (kms_hi hi xs.length-kms_lo lo xs.length)
noncomputable def sliceV(K:Frag)(a lo hi:V):M V:=onSome (partI lo) λ lo=>onSome (partI hi) λ hi=>match a with
  | .tup xs=>if xs.length≤1000 then M.pure (.tup (cutL lo hi xs)) else no
  | .ref i=>M.bind (getO i) (onL λ xs=>if xs.length≤1000 then alloc (.list (cutL lo hi xs)) else no)
  | .sta v=>onSome ((vRef v).bind (lstK K)) λ xs=>if xs.length≤1000 then alloc (.list (cutL lo hi xs)) else no
  | _=>no
noncomputable def maxI(l:List V):Option Int:=(intsV l).bind List.max?
noncomputable def minI(l:List V):Option Int:=(intsV l).bind List.min?
noncomputable def sumI(l:List V):Option Int:=(intsV l).map List.sum
noncomputable def bytesV(b:Array UInt8):List V:=b.toList.map λ c=>.int (c.toNat:Int)
noncomputable def oneL{α:Type}(l:List α):Option α:=match l with
 | [a]=>some a
 | _=>none
noncomputable def pairL{α:Type}(l:List α):Option (α × α):=match l with
 | [a,b]=>some (a,b)
 | _=>none
noncomputable def arg1(k:V→M V)(args:List V):M V:=onSome (oneL args) k
noncomputable def onList(k:List V→M V)(o:O):M V:=onL (λ xs=>if xs.length≤1000 then k xs else no) o
noncomputable def lstA(k:List V→M V)(args:List V):M V:=arg1 (onRef λ i=>M.bind (getO i) (onList k)) args
noncomputable def oneA(f:Int→V)(args:List V):M V:=arg1 (onInt λ n=>M.pure (f n)) args
noncomputable def tupA(args:List V):M V:=arg1 (λ v=>match v with
 | .tup xs=>M.pure (.tup xs)
 | .byt b=>if b.size≤1000 then M.pure (.tup (bytesV b)) else no
 | _=>lstA (λ xs=>M.pure (.tup xs)) [v]) args
noncomputable def intA(args:List V):M V:=arg1 (onBool λ b=>M.pure (.int (if b then 1 else 0))) args
noncomputable def bytA(args:List V):M V:=arg1 (λ v=>match v with
 | .byt b=>M.pure (.byt b)
 | _=>no) args
noncomputable def twoA(f:Int→Int→Int)(k:List V→Option Int)(args:List V):M V:=match pairL args with
 | some p=>onInt (λ i=>onInt (λ j=>M.pure (.int (f i j))) p.2) p.1
 | none=>lstA (λ xs=>M.bind (ofO (k xs)) λ r=>M.pure (.int r)) args
noncomputable def isiA(args:List V):M V:=onSome (pairL args) λ p=>onSta (λ t=>match p.1 with
  | .int _=>if isT t "int" then M.pure (.bool true) else if isT t "bool" then M.pure (.bool false) else no
  | .none=>if isT t "int" then M.pure (.bool false) else no
  | _=>no) p.2
noncomputable def bcall(f:Value)(args:List V):M V:=
 if isB f "len" then lstA (λ xs=>M.pure (.int xs.length)) args else
 if isT f "range" then oneA .rng args else
 if isT f "tuple" then tupA args else
 if isT f "list" then lstA (λ xs=>alloc (.list xs)) args else
 if isT f "int" then intA args else
 if isT f "bytes" then bytA args else
 if isB f "abs" then oneA (λ i=>.int i.natAbs) args else
 if isB f "max" then twoA max maxI args else
 if isB f "min" then twoA min minI args else
 if isB f "sum" then lstA (λ xs=>M.bind (ofO (sumI xs)) λ r=>M.pure (.int r)) args else
 if isB f "isinstance" then isiA args else no
inductive Src where
 | lst (i:Nat)
 | tup (vs:List V)
 | rng (n:Int)
 | byt (b:Array UInt8)
noncomputable def toSrc(v:V):M Src:=match v with
 | .ref i=>M.bind (getO i) (onL λ _=>M.pure (.lst i))
 | .tup vs=>M.pure (.tup vs)
 | .rng n=>if -1000≤n∧n≤1000 then M.pure (.rng n) else no
 | .byt b=>M.pure (.byt b)
 | _=>no
noncomputable def lstO(o:O):Option (List V):=match o with
 | .list vs=>some vs
 | .inst ..=>none
noncomputable def itemAt(s:Src)(k:Nat)(h:Hp):Option (Option V):=match s with
 | .lst i=>h[i]?.bind λ o=>(lstO o).map (·[k]?)
 | .tup vs=>some vs[k]?
 | .rng n=>some (if(k:Int)<n then some (.int k) else none)
 | .byt b=>some (b[k]?.map λ c=>.int (c.toNat:Int))
noncomputable def noexc{α:Type}(m:M α):M α:=λ h=>(m h).then .ok λ _ _=>.no
noncomputable def turn{α:Type}(s:Src)(k:Nat)(e:M α)(f:V→M α):M α:=λ h=>match itemAt s k h with
 | none=>.no
 | some o=>match o with
  | none=>e h
  | some v=>f v h
noncomputable def compLoop(n:Nat)(s:Src)(k:Nat)(f:V→M (Option V)):M (List V):=Nat.rec (motive:=λ _=>Nat→M (List V)) (λ _=>no) (λ _ l k=>turn s k (M.pure []) λ v=>M.bind (noexc (f v)) λ r=>M.bind (l (k+1)) λ rest=>M.pure (match r with | some x=>x::rest | none=>rest)) n k
inductive Fl where
 | ret (v:V)
 | next (ρ:Lo)
noncomputable def forLoop(n:Nat)(s:Src)(i:Nat)(ρ:Lo)(body:V→Lo→(Lo→M Fl)→M Fl)(k:Lo→M Fl):M Fl:=Nat.rec (motive:=λ _=>Nat→Lo→M Fl) (λ _ _=>no) (λ _ l i ρ=>turn s i (k ρ) λ v=>body v ρ (l (i+1))) n i ρ
abbrev CallT:=Addr→List V→List (PySem.Str × V)→M V
noncomputable def okCls(K:Frag)(C:Addr):Bool:=
 plainGet K C ("" : PySem.Str)&&hasDictIn K C&&plainOver K C&&(findIn K (.ref C) "__setattr__" == some (some (.builtin "object.__setattr__")))
noncomputable def refF(o:Option (Option Value)):Option Addr:=o.bind λ o=>o.bind vRef
theorem refF_is{o:Option (Option Value)}{f:Addr}(h:refF o=some f):o=some (some (.ref f)):=bind_is h λ a e h=>bind_is h λ v e' h=>by rw [e,e',vRef_is h]
noncomputable def makeV(K:Frag)(call:CallT)(c:Addr)(args:List V)(kws:List (PySem.Str × V)):M V:=
 if makesIn K c&&okCls K c then onSome (refF (findIn K (.ref c) "__init__")) λ f=>if isFn K (.ref f) then M.bind (alloc (.inst c [])) λ o=>M.bind (noexc (call f (o::args) kws)) (onNone (M.pure o)) else no else no
noncomputable def callV(K:Frag)(call:CallT)(f:V)(args:List V)(kws:List (PySem.Str × V)):M V:=onSta (λ v=>match vRef v with
 | some a=>if keepIn K (.ref a) then onSome (K.lookup a) (λ o=>if Nat.beq o.data.ctorIdx 7 then call a args kws else makeV K call a args kws) else no
 | none=>if kws.isEmpty then bcall v args else no) f
inductive Mk where
 | fn (f:Addr)
 | app
noncomputable def methF(K:Frag)(o:V)(x:PySem.Str):M Mk:=onRef (λ i=>M.bind (getO i) λ ob=>match ob with
 | .inst c fs=>onSome (refF (findIn K (.ref c) x)) λ f=>if(lk x fs).isNone&&isFn K (.ref f)&&keepIn K (.ref f) then M.pure (.fn f) else no
 | .list _=>if i≠0∧x=("append" : PySem.Str) then M.pure .app else no) o
noncomputable def methC(call:CallT)(k:Mk)(o:V)(args:List V):M V:=match k with
 | .fn f=>call f (o::args) []
 | .app=>onRef (λ i=>arg1 (λ v=>M.bind (getO i) (onL λ xs=>if xs.length≤1000 then M.bind (setO i (.list (xs++[v]))) λ _=>M.pure .none else no)) args) o
noncomputable def isStar(e:Expr):Bool:=Nat.beq e.ctorIdx 22
noncomputable def slicePart(e:Expr):Option (Option Expr × Option Expr):=
 if h:Nat.beq e.ctorIdx 26=true then PySem.Expr.Slice.elim (motive_1:=λ _=>Option (Option Expr × Option Expr)) e (Nat.eq_of_beq_eq_true h) λ lo hi st _=>if st.isNone then some (lo,hi) else none else none
noncomputable def attrPart(e:Expr):Option (Expr × PySem.Str × Pos):=
 if h:Nat.beq e.ctorIdx 20=true then PySem.Expr.Attribute.elim (motive_1:=λ _=>Option (Expr × PySem.Str × Pos)) e (Nat.eq_of_beq_eq_true h) λ o x p=>some (o,x,p) else none
noncomputable def namePart(e:Expr):Option PySem.Str:=
 if h:Nat.beq e.ctorIdx 23=true then PySem.Expr.Name.elim (motive_1:=λ _=>Option PySem.Str) e (Nat.eq_of_beq_eq_true h) λ x _=>some x else none
noncomputable def callPart(e:Expr):Bool:=
 if h:Nat.beq e.ctorIdx 16=true then PySem.Expr.Call.elim (motive_1:=λ _=>Bool) e (Nat.eq_of_beq_eq_true h) λ _ as _ _=>!as.isEmpty else false
noncomputable def okBase(e:Expr):Bool:=Nat.beq e.ctorIdx 23||Nat.beq e.ctorIdx 20||Nat.beq e.ctorIdx 21||callPart e
noncomputable def subPart(e:Expr):Option (Expr × Expr):=
 if h:Nat.beq e.ctorIdx 21=true then PySem.Expr.Subscript.elim (motive_1:=λ _=>Option (Expr × Expr)) e (Nat.eq_of_beq_eq_true h) λ o i _=>some (o,i) else none
noncomputable def consL{α:Type}(l:List α):Option (α × List α):=match l with
 | []=>none
 | a::r=>some (a,r)
theorem oneL_is{α:Type}{l:List α}{a:α}(h:oneL l=some a):l=[a]:=by
 rcases l with _ | ⟨b,_ | ⟨_,_⟩⟩
 ·exact no_some h
 ·exact congrArg (· :: []) (Option.some.inj h)
 ·exact no_some h
theorem pairL_is{α:Type}{l:List α}{p:α × α}(h:pairL l=some p):l=[p.1,p.2]:=by
 rcases l with _ | ⟨a,_ | ⟨b,_ | ⟨_,_⟩⟩⟩
 ·exact no_some h
 ·exact no_some h
 ·cases Option.some.inj h;rfl
 ·exact no_some h
theorem consL_is{α:Type}{l:List α}{a:α × List α}(h:consL l=some a):l=a.1::a.2:=by
 cases l with
 | nil=>exact no_some h
 | cons b r=>cases Option.some.inj h;rfl
noncomputable def callOne(e:Expr):Option (PySem.Str × Expr):=
 if h:Nat.beq e.ctorIdx 16=true then PySem.Expr.Call.elim (motive_1:=λ _=>Option (PySem.Str × Expr)) e (Nat.eq_of_beq_eq_true h) λ f as ks _=>if ks.isEmpty then(oneL as).bind λ a=>(namePart f).map λ c=>(c,a) else none else none
noncomputable def constStr(e:Expr):Bool:=
 if h:Nat.beq e.ctorIdx 19=true then PySem.Expr.Constant.elim (motive_1:=λ _=>Bool) e (Nat.eq_of_beq_eq_true h) λ v _ _=>Nat.beq v.ctorIdx 5 else false
noncomputable def boolC(v:Const):Option Bool:=if h:Nat.beq v.ctorIdx 1=true then PySem.Const.bool.elim (motive:=λ _=>Option Bool) v (Nat.eq_of_beq_eq_true h) some else none
noncomputable def constB(e:Expr):Option Bool:=
 if h:Nat.beq e.ctorIdx 19=true then PySem.Expr.Constant.elim (motive_1:=λ _=>Option Bool) e (Nat.eq_of_beq_eq_true h) λ v _ _=>boolC v else none
noncomputable def asgPart(s:Stmt):Option (Expr × Expr):=
 if h:Nat.beq s.ctorIdx 5=true then PySem.Stmt.Assign.elim (motive_2:=λ _=>Option (Expr × Expr)) s (Nat.eq_of_beq_eq_true h) λ ts v _=>(oneL ts).map λ t=>(t,v) else none
noncomputable def expPart(s:Stmt):Option Expr:=
 if h:Nat.beq s.ctorIdx 24=true then PySem.Stmt.Expr.elim (motive_2:=λ _=>Option Expr) s (Nat.eq_of_beq_eq_true h) λ v _=>some v else none
noncomputable def retPart(s:Stmt):Option Bool:=
 if h:Nat.beq s.ctorIdx 3=true then PySem.Stmt.Return.elim (motive_2:=λ _=>Option Bool) s (Nat.eq_of_beq_eq_true h) λ v _=>v.bind constB else none
noncomputable def handP(h:ExceptHandler):Option (PySem.Str × Stmt × List Stmt):=match h with
 | .ExceptHandler t nm body _=>t.bind λ e=>if nm.isNone then(consL body).bind λ q=>(namePart e).map λ c=>(c,q) else none
noncomputable def tryH(hs:List ExceptHandler):Option (PySem.Str × Stmt × List Stmt):=(oneL hs).bind handP
theorem nbF{b:Bool}(h:(!b)=false):b=true:=by
 cases b with
 | false=>cases h
 | true=>rfl
theorem nbT{b:Bool}(h:(!b)=true):b=false:=by
 cases b with
 | false=>rfl
 | true=>cases h
theorem add_is{o:Operator}(h:Nat.beq o.ctorIdx 0=true):o = .Add:=PySem.Operator.Add.elim o (Nat.eq_of_beq_eq_true h) rfl
theorem star_is{e:Expr}(h:isStar e=true):∃ v p,e = .Starred v p:=PySem.Expr.Starred.elim e (Nat.eq_of_beq_eq_true h) λ v p=>⟨v,p,rfl⟩
theorem attr_is{f:Expr}{q:Expr × PySem.Str × Pos}(h:attrPart f=some q):f = .Attribute q.1 q.2.1 q.2.2:=by
 have hb:=of_part h
 revert h
 refine PySem.Expr.Attribute.elim f (Nat.eq_of_beq_eq_true hb) λ o' x' p' h=>?_
 cases Option.some.inj h;rfl
theorem sub_is{f:Expr}{q:Expr × Expr}(h:subPart f=some q):∃ p,f = .Subscript q.1 q.2 p:=by
 have hb:=of_part h
 revert h
 refine PySem.Expr.Subscript.elim f (Nat.eq_of_beq_eq_true hb) λ o' x' p' h=>?_
 cases Option.some.inj h;exact⟨p',rfl⟩
theorem name_is{t:Expr}{x:PySem.Str}(h:namePart t=some x):∃ p,t = .Name x p:=by
 have hb:=of_part h
 revert h
 refine PySem.Expr.Name.elim t (Nat.eq_of_beq_eq_true hb) λ y p h=>?_
 cases Option.some.inj h;exact⟨p,rfl⟩
theorem slice_is{i:Expr}{q:Option Expr × Option Expr}(h:slicePart i=some q):∃ p,i = .Slice q.1 q.2 none p:=by
 have hb:=of_part h
 revert h
 refine PySem.Expr.Slice.elim i (Nat.eq_of_beq_eq_true hb) λ a b c p h=>?_
 cases c with
 | none=>cases Option.some.inj h;exact⟨p,rfl⟩
 | some _=>exact no_some h
theorem callOne_is{f:Expr}{q:PySem.Str × Expr}(h:callOne f=some q):∃ np p,f = .Call (.Name q.1 np) [q.2] [] p:=by
 have hb:=of_part h
 revert h
 refine PySem.Expr.Call.elim f (Nat.eq_of_beq_eq_true hb) λ g as ks p h=>?_
 refine bind_is (iteO h).2 λ a e h'=>map_is h' λ c e' h''=>?_
 subst h''
 rw [oneL_is e,List.isEmpty_iff.mp (iteO h).1]
 exact(name_is e').elim λ np q=>⟨np,p,q▸rfl⟩
theorem boolC_is{v:Const}{b:Bool}(h:boolC v=some b):v = .bool b:=by
 have hb:=of_part h
 revert h
 exact PySem.Const.bool.elim v (Nat.eq_of_beq_eq_true hb) λ j h=>congrArg Const.bool (Option.some.inj h)
theorem constB_is{e:Expr}{b:Bool}(h:constB e=some b):∃ k p,e = .Constant (.bool b) k p:=by
 have hb:=of_part h
 revert h
 exact PySem.Expr.Constant.elim e (Nat.eq_of_beq_eq_true hb) λ v k p h=>⟨k,p,congrArg (Expr.Constant · k p) (boolC_is h)⟩
theorem constStr_is{e:Expr}(h:constStr e=true):∃ st k p,e = .Constant (.str st) k p:=by
 have hb:Nat.beq e.ctorIdx 19=true:=by
  by_cases q:Nat.beq e.ctorIdx 19=true
  ·exact q
  ·cases (dif_neg q).symm.trans h
 revert h
 refine PySem.Expr.Constant.elim e (Nat.eq_of_beq_eq_true hb) λ v k p h=>?_
 exact PySem.Const.str.elim (motive:=λ v=>∃ st k' p',Expr.Constant v k p = .Constant (.str st) k' p') v (Nat.eq_of_beq_eq_true h) λ st=>⟨st,k,p,rfl⟩
theorem asgPart_is{s:Stmt}{q:Expr × Expr}(h:asgPart s=some q):∃ p,s = .Assign [q.1] q.2 p:=by
 have hb:=of_part h
 revert h
 refine PySem.Stmt.Assign.elim s (Nat.eq_of_beq_eq_true hb) λ ts v p h=>map_is h λ a e h'=>?_
 subst h'
 exact⟨p,by rw [oneL_is e]⟩
theorem expPart_is{s:Stmt}{q:Expr}(h:expPart s=some q):∃ p,s = .Expr q p:=by
 have hb:=of_part h
 revert h
 refine PySem.Stmt.Expr.elim s (Nat.eq_of_beq_eq_true hb) λ v p h=>?_
 cases Option.some.inj h;exact⟨p,rfl⟩
theorem retPart_is{s:Stmt}{b:Bool}(h:retPart s=some b):∃ k p q,s = .Return (some (.Constant (.bool b) k p)) q:=by
 have hb:=of_part h
 revert h
 refine PySem.Stmt.Return.elim s (Nat.eq_of_beq_eq_true hb) λ v p h=>bind_is h λ e q h'=>?_
 subst q
 exact(constB_is h').elim λ k r=>r.elim λ z r=>⟨k,z,p,r▸rfl⟩
theorem handP_is{h:ExceptHandler}{q:PySem.Str × Stmt × List Stmt}(e:handP h=some q):∃ np hp,h = .ExceptHandler (some (.Name q.1 np)) none (q.2.1::q.2.2) hp:=by
 cases h with | ExceptHandler t nm body hp=>
 refine bind_is e λ t' et e=>bind_is (iteO e).2 λ b eb h'=>map_is h' λ c e' h''=>?_
 subst h''
 rw [et,Option.isNone_iff_eq_none.mp (iteO e).1,consL_is eb]
 exact(name_is e').elim λ np q=>⟨np,hp,q▸rfl⟩
theorem tryH_is{hs:List ExceptHandler}{q:PySem.Str × Stmt × List Stmt}(h:tryH hs=some q):∃ np hp,hs=[.ExceptHandler (some (.Name q.1 np)) none (q.2.1::q.2.2) hp]:=
 bind_is h λ a e h'=>(handP_is h').elim λ np r=>r.elim λ hp r=>⟨np,hp,r▸oneL_is e⟩
noncomputable def okComp(sc sc':Scope)(ρ:Lo)(x:PySem.Str)(iter:Expr):Bool:=
 !Nat.beq iter.ctorIdx 7&&sc'.kind == .function&&sc'.names.lookup x==some .local &&
 sc'.names.all λ p=>p.2 != .cell&&(p.2 != .local||(sc'.names.lookup p.1==some .local&&(p.1==x||(lk p.1 ρ).isNone))) &&
  (p.2 != .free||((sc.names.lookup p.1==some .cell||sc.names.lookup p.1==some .free)&&(lk p.1 ρ).isSome))
section
variable(K:Frag)(call:CallT)
mutual
noncomputable def evE:Nat→Scope→Lo→Expr→M V
 | 0,_,_,_=>no
 | n+1,sc,ρ,e=>match e with
  | .Constant c _ _=>constV c
  | .Name x _=>nameV K sc ρ x
  | .BoolOp op es _=>evB n sc ρ op es
  | .BinOp l op r _=>do let a ←evE n sc ρ l;let b ←evE n sc ρ r;binV op a b
  | .UnaryOp op x _=>do let a ←evE n sc ρ x;unV op a
  | .IfExp t b o _=>do
   let c ←evE n sc ρ t
   let c ←asB c
   if c then evE n sc ρ b else evE n sc ρ o
  | .Compare l ops cs _=>if lastMarks ops cs then no else do let a ←evE n sc ρ l;evC n sc ρ a ops cs
  | .List es _=>if es.any isStar then no else do let vs ←evL n sc ρ es;if vs.length≤1000 then alloc (.list vs) else no
  | .Tuple es _ _=>if es.any isStar then no else do let vs ←evL n sc ρ es;if vs.length≤1000 then pure (.tup vs) else no
  | .Attribute o x _=>if okBase o then do let a ←evE n sc ρ o;getA K a x else no
  | .Subscript o i _=>(slicePart i).elim (do let a ←evE n sc ρ o;let b ←evE n sc ρ i;getI a b) λ q=>do
    let a ←evE n sc ρ o
    let l ←evO n sc ρ q.1
    let u ←evO n sc ρ q.2
    sliceV K a l u
  | .Call f args kws pos=>if args.any isStar||kws.any (·.arg.isNone) then no else(attrPart f).elim (do
    let f ←evE n sc ρ f
    let vs ←evL n sc ρ args
    let ks ←evK n sc ρ kws
    callV K call f vs ks) λ q=>if okBase q.1&&kws.isEmpty&&q.2.2.endLine==pos.line&&decide (args.length<30) then do
     let a ←evE n sc ρ q.1
     let mk ←methF K a q.2.1
     let vs ←evL n sc ρ args
     methC call mk a vs
    else no
  | .ListComp elt gens sc' _=>onSome (oneL gens) λ gn=>onSome (if gn.is_async=0 then namePart gn.target else none) λ x=>if !okComp sc sc' ρ x gn.iter then no else do
     let s ←evE n sc ρ gn.iter
     let src ←toSrc s
     let vs ←compLoop 200 src 0 (λ v=>do
      let t ←evT n sc' (put x v ρ) gn.ifs
      if t then do let r ←evE n sc' (put x v ρ) elt;pure (some r) else pure none)
     alloc (.list vs)
  | _=>no
noncomputable def evO:Nat→Scope→Lo→Option Expr→M V
 | 0,_,_,_=>no
 | _+1,_,_,none=>pure .none
 | n+1,sc,ρ,some e=>evE n sc ρ e
noncomputable def evL:Nat→Scope→Lo→List Expr→M (List V)
 | 0,_,_,_=>no
 | _+1,_,_,[]=>pure []
 | n+1,sc,ρ,e::r=>do let v ←evE n sc ρ e;let vs ←evL n sc ρ r;pure (v::vs)
noncomputable def evK:Nat→Scope→Lo→List Keyword→M (List (PySem.Str × V))
 | 0,_,_,_=>no
 | _+1,_,_,[]=>pure []
 | n+1,sc,ρ,⟨some x,e,_⟩::r=>do let v ←evE n sc ρ e;let vs ←evK n sc ρ r;pure ((x,v)::vs)
 | _+1,_,_,⟨none,_,_⟩::_=>no
noncomputable def evT:Nat→Scope→Lo→List Expr→M Bool
 | 0,_,_,_=>no
 | _+1,_,_,[]=>pure true
 | n+1,sc,ρ,[e]=>do let v ←evE n sc ρ e;asB v
 | _+1,_,_,_=>no
noncomputable def evB:Nat→Scope→Lo→BoolOp→List Expr→M V
 | 0,_,_,_,_=>no
 | _+1,_,_,_,[]=>no
 | n+1,sc,ρ,_,[e]=>do let v ←evE n sc ρ e;let b ←asB v;pure (.bool b)
 | n+1,sc,ρ,.And,e::r=>do
  let v ←evE n sc ρ e
  let b ←asB v
  if b then evB n sc ρ .And r else pure (.bool false)
 | n+1,sc,ρ,.Or,e::r=>do
  let v ←evE n sc ρ e
  let b ←asB v
  if b then pure (.bool true) else evB n sc ρ .Or r
noncomputable def evC:Nat→Scope→Lo→V→List CmpOp→List Expr→M V
 | 0,_,_,_,_,_=>no
 | n+1,sc,ρ,a,[op],[c]=>do
  let b ←evE n sc ρ c
  let r ←cmpV op a b
  pure (.bool r)
 | n+1,sc,ρ,a,op::op'::ops,c::c'::cs=>do
  let b ←evE n sc ρ c
  let r ←cmpV op a b
  if r then evC n sc ρ b (op'::ops) (c'::cs) else pure (.bool false)
 | _+1,_,_,_,_,_=>no
end
noncomputable def notSet(e:Expr):Bool:=!Nat.beq e.ctorIdx 7
noncomputable def notSlice(e:Expr):Bool:=!Nat.beq e.ctorIdx 26
noncomputable def isComp(e:Expr):Bool:=Nat.beq e.ctorIdx 8||Nat.beq e.ctorIdx 9||Nat.beq e.ctorIdx 10
noncomputable def tripL{α:Type}(l:List α):Option (α × α × α):=(consL l).bind λ q=>(pairL q.2).map λ p=>(q.1,p)
noncomputable def quadL{α:Type}(l:List α):Option (α × α × α × α):=(consL l).bind λ q=>(tripL q.2).map λ p=>(q.1,p)
noncomputable def un1{α:Type}(v:V)(f:V→M α):M α:=unT v λ vs=>onSome (oneL vs) f
noncomputable def un2{α:Type}(v:V)(f:V→V→M α):M α:=unT v λ vs=>onSome (pairL vs) λ p=>f p.1 p.2
noncomputable def un3{α:Type}(v:V)(f:V→V→V→M α):M α:=unT v λ vs=>onSome (tripL vs) λ p=>f p.1 p.2.1 p.2.2
noncomputable def un4{α:Type}(v:V)(f:V→V→V→V→M α):M α:=unT v λ vs=>onSome (quadL vs) λ p=>f p.1 p.2.1 p.2.2.1 p.2.2.2
noncomputable def unt{α:Type}(k:Nat)(v:V)(f:List V→M α):M α:=match k with
 | 1=>un1 v λ a=>f [a]
 | 2=>un2 v λ a b=>f [a,b]
 | 3=>un3 v λ a b c=>f [a,b,c]
 | 4=>un4 v λ a b c d=>f [a,b,c,d]
 | _=>no
mutual
noncomputable def asg:Nat→Scope→Expr→V→Lo→(Lo→M Fl)→M Fl
 | 0,_,_,_,_,_=>no
 | n+1,sc,t,v,ρ,k=>match t with
  | .Name x _=>onSome (sc.names.lookup x) λ kd=>if kd == .local||kd == .cell then k (put x v ρ) else no
  | .Attribute o x _=>M.bind (evE K call n sc ρ o) λ ov=>M.bind (setA K ov x v) λ _=>k ρ
  | .Subscript o i _=>if !notSlice i then no else M.bind (evE K call n sc ρ o) λ ov=>M.bind (evE K call n sc ρ i) λ iv=>M.bind (setI ov iv v) λ _=>k ρ
  | .Tuple ts _ _=>if ts.any isStar || !decide ((ts.filterMap namePart).Nodup) then no else unt ts.length v λ vs=>asgs n sc ts vs ρ k
  | _=>no
noncomputable def asgs:Nat→Scope→List Expr→List V→Lo→(Lo→M Fl)→M Fl
 | 0,_,_,_,_,_=>no
 | _+1,_,[],[],ρ,k=>k ρ
 | n+1,sc,t::ts,v::vs,ρ,k=>asg n sc t v ρ λ ρ'=>asgs n sc ts vs ρ' k
 | _+1,_,_,_,_,_=>no
end
noncomputable def okSwap(e:Expr):Bool:=
 if h:Nat.beq e.ctorIdx 25=true then PySem.Expr.Tuple.elim (motive_1:=λ _=>Bool) e (Nat.eq_of_beq_eq_true h) λ vs _ _=>!(vs.all (constantsAlone 8))||vs.all (foldedForSure 8) else true
end
section
variable(K:Frag)
noncomputable def isK(sc:Scope)(x:PySem.Str)(k:Nat):Bool:=match sc.names.lookup x with
 | some d=>Nat.beq d.ctorIdx k
 | none=>false
theorem isK_is{sc:Scope}{x:PySem.Str}(h:isK sc x 0=true):sc.names.lookup x=some .local:=by
 unfold isK at h
 cases e:sc.names.lookup x with
 | none=>rw [e] at h;cases h
 | some d=>rw [e] at h;rw [PySem.NameKind.local.elim (motive:=λ d=>d = .local) d (Nat.eq_of_beq_eq_true h) rfl]
theorem isK_im{sc:Scope}{x:PySem.Str}(h:isK sc x 4=true):sc.names.lookup x=some .globalImplicit:=by
 unfold isK at h
 cases e:sc.names.lookup x with
 | none=>rw [e] at h;cases h
 | some d=>rw [e] at h;rw [PySem.NameKind.globalImplicit.elim (motive:=λ d=>d = .globalImplicit) d (Nat.eq_of_beq_eq_true h) rfl]
noncomputable def staI(v:V):Option Value:=match v with
 | .sta u=>some u
 | _=>none
theorem staI_is{v:V}{u:Value}(h:staI v=some u):v = .sta u:=by
 revert h
 cases v with
 | sta j=>exact λ h=>congrArg V.sta (Option.some.inj h)
 | _=>exact λ h=>no_some h
noncomputable def is80(sc:Scope)(c:PySem.Str):Bool:=isK sc c 4&&(((globV K c).bind staI).bind vRef).elim false (Nat.beq 80)
mutual
noncomputable def evS:Bool→CallT→CallT→Nat→Scope→Stmt→Lo→(Lo→M Fl)→M Fl
 | _,_,_,0,_,_,_,_=>no
 | hd,call,callH,n+1,sc,st,ρ,k=>match st with
  | .Expr value _=>if isComp value then no else M.bind (evE K call n sc ρ value) λ _=>k ρ
  | .Return none _=>M.pure (.ret .none)
  | .Return (some e) _=>M.bind (evE K call n sc ρ e) λ v=>M.pure (.ret v)
  | .Assign ts value _=>onSome (oneL ts) λ t=>if okSwap value then M.bind (evE K call n sc ρ value) λ v=>asg K call n sc t v ρ k else no
  | .AugAssign t op value _=>if !Nat.beq op.ctorIdx 0 then no else(attrPart t).elim (onSome (subPart t) λ q=>if !notSlice q.2 then no else M.bind (evE K call n sc ρ q.1) λ ov=>M.bind (evE K call n sc ρ q.2) λ iv=>M.bind (getI ov iv) λ old=>M.bind (asI old) λ a=>
     M.bind (evE K call n sc ρ value) λ w=>M.bind (asI w) λ b=>M.bind (setI ov iv (.int (a+b))) λ _=>k ρ) λ q=>M.bind (evE K call n sc ρ q.1) λ ov=>M.bind (getA K ov q.2.1) λ old=>M.bind (asI old) λ i=>
    M.bind (evE K call n sc ρ value) λ w=>M.bind (asI w) λ j=>M.bind (setA K ov q.2.1 (.int (i+j))) λ _=>k ρ
  | .If t b o _=>M.bind (evE K call n sc ρ t) λ v=>M.bind (asB v) λ c=>if c then evSs hd call callH n sc b ρ k else evSs hd call callH n sc o ρ k
  | .For t iter body oe _=>if !notSet iter || !oe.isEmpty then no else onSome (namePart t) λ x=>if isK sc x 0 then M.bind (evE K call n sc ρ iter) λ s=>M.bind (toSrc s) λ src=>forLoop 200 src 0 ρ (λ v ρ' k'=>evSs hd call callH n sc body (put x v ρ') k') k else no
  | .Raise e c _=>onSome (e.bind callOne) λ q=>if c.isNone&&constStr q.2&&is80 K sc q.1 then raise 80 else no
  | .Try body hs oe fi _=>if hd || !oe.isEmpty || !fi.isEmpty then no else onSome (tryH hs) λ p=>if is80 K sc p.1 then onSome (consL body) (λ b=>(asgPart b.1).elim
    (onSome (expPart b.1) λ value=>onSome (oneL b.2) λ r=>onSome (retPart r) λ x=>λ h=>R.then (if isComp value then .no else evE K call n sc ρ value h)
         (λ _ h'=>.ok (.ret (.bool x)) h')
         (λ c' h'=>if c'=80 then M.bind (noexc (evSs true callH callH n sc (p.2.1::p.2.2) ρ λ ρ'=>M.pure (.next ρ'))) (λ fl=>match fl with | .ret v=>M.pure (.ret v) | .next ρ'=>k ρ') h' else .no))
    λ q=>λ h=>R.then (if okSwap q.2&&b.2.isEmpty then evE K call n sc ρ q.2 h else .no)
        (λ v h'=>M.bind (noexc (asg K call n sc q.1 v ρ λ ρ'=>M.pure (.next ρ'))) (λ fl=>match fl with | .next ρ'=>k ρ' | .ret _=>no) h')
        (λ c' h'=>if c'=80 then M.bind (noexc (evSs true callH callH n sc (p.2.1::p.2.2) ρ λ ρ'=>M.pure (.next ρ'))) (λ fl=>match fl with | .ret v=>M.pure (.ret v) | .next ρ'=>k ρ') h' else .no)) else no
  | _=>no
noncomputable def evSs:Bool→CallT→CallT→Nat→Scope→List Stmt→Lo→(Lo→M Fl)→M Fl
 | _,_,_,0,_,_,_,_=>no
 | _,_,_,_+1,_,[],ρ,k=>k ρ
 | hd,call,callH,n+1,sc,s::ss,ρ,k=>evS hd call callH n sc s ρ λ ρ'=>evSs hd call callH n sc ss ρ' k
end
end
noncomputable def fill{α:Type}(l:List (PySem.Str × α))(sl:List (PySem.Str × α)):List (PySem.Str × α):=List.rec (motive:=λ _=>List (PySem.Str × α)→List (PySem.Str × α)) id (λ p _ i sl=>i (if(sl.lookup p.1).isNone then sl++[p] else sl)) l sl
noncomputable def bindP{α:Type}(names:List PySem.Str)(pos:List α)(kw:List (PySem.Str × α))(dflt:List α):List (PySem.Str × α):=
 let slots:=fill ((names.drop (names.length-dflt.length)).zip dflt) (names.zip pos++kw)
 names.filterMap λ n=>(slots.lookup n).map (n,·)
noncomputable def okKw(names:List PySem.Str)(used ks:List PySem.Str):Bool:=List.rec (motive:=λ _=>List PySem.Str→Bool) (λ _=>true) (λ k _ i used=>names.contains k && !used.contains k&&i (used++[k])) ks used
noncomputable def okNames(names:List (PySem.Str × NameKind))(ps:List PySem.Str):Bool:=
 names.all (λ p=>p.2 != .free)&&ps.all λ n=>names.lookup n==some .local||(names.lookup n==some .cell&&((cellsFrom 0 names []).map (·.1)).contains n)
noncomputable def pn(fd:FuncData):List PySem.Str:=fd.params.args.map (·.arg)
noncomputable def okFn(K:Frag)(fd:FuncData):Bool:=
 fd.params.posonlyargs.isEmpty&&fd.params.vararg.isNone&&fd.params.kwonlyargs.isEmpty&&fd.params.kwarg.isNone &&
 !fd.scope.isCoroutine && !fd.scope.isGenerator&&fd.scope.kind == .function&&fd.closure.isEmpty&&fd.globals==mainGlobals&&fd.builtins==builtinsNs &&
 codeIn K fd.code fd.qualname&&decide ((pn fd).Nodup)&&okNames fd.scope.names (pn fd)
noncomputable def dfltK(K:Frag)(v:Value):Option (List V):=if Nat.beq v.ctorIdx 0 then some [] else(vRef v).bind (tupK K)
noncomputable def bodyS(fd:FuncData):Option (List Stmt):=match fd.body with
 | .stmts b=>some b
 | _=>none
noncomputable def funD(d:Data):Option FuncData:=if h:Nat.beq d.ctorIdx 7=true then PySem.Data.func.elim (motive:=λ _=>Option FuncData) d (Nat.eq_of_beq_eq_true h) some else none
noncomputable def okCall(K:Frag)(fd:FuncData)(vs:List V)(kws:List (PySem.Str × V))(ds:List V):Bool:=
 okFn K fd&&decide (vs.length≤(pn fd).length)&&decide (ds.length≤(pn fd).length)&&okKw (pn fd) ((pn fd).take vs.length) (kws.map (·.1)) &&
      ((pn fd).take ((pn fd).length-ds.length)).all (λ n=>(((pn fd).zip vs++kws).lookup n).isSome)
noncomputable def callF(K:Frag):Nat→Bool→CallT
 | 0,_,_,_,_=>no
 | n+1,hd,a,vs,kws=>onSome (K.lookup a) λ o=>onSome (funD o.data) λ fd=>onSome (bodyS fd) λ body=>onSome (dfltK K fd.defaults) λ ds=>
    if okCall K fd vs kws ds then
     M.bind (evSs K hd (callF K n hd) (callF K n true) 60 fd.scope body (bindP (pn fd) vs kws ds) λ ρ'=>M.pure (.next ρ')) λ fl=>M.pure (match fl with | .ret v=>v | .next _=>.none)
    else no
end VS.Internal
end
section
open PySem PySem.W PyProof.Rows
set_option backward.match.sparseCases false
namespace VS.Internal
abbrev Ph:=List (Addr × Addr)
abbrev Nw:=List (Addr × Obj)
noncomputable def mutA(φ:Ph):List Addr:=φ.map (·.2)
noncomputable def TupIn(K:Frag)(φ:Ph)(nw:Nw)(a:Addr)(xs:List Value):Prop:=
 (∃ o n,(a,o)∈nw∧a∉mutA φ∧o.cls = .type "tuple"∧o.data = .seq xs.toArray n)∨(∃ n sl,K.lookup a=some ⟨.type "tuple",none,.seq xs.toArray n,sl⟩)
noncomputable def RngIn(φ:Ph)(nw:Nw)(a:Addr)(n:Int):Prop:=
 ∃ t u v,(a,({cls:=.type "range",dict:=none,data:=.fields #[.int 0 t,.int n u,.int 1 v],slots:=#[]}:Obj))∈nw∧a∉mutA φ
noncomputable def L2{α β:Type}(R:α→β→Prop)(l:List α):List β→Prop:=List.rec (motive:=λ _=>List β→Prop) (λ xs=>xs=[]) (λ v _ i xs=>∃ x r,xs=x::r∧R v x∧i r) l
section
variable{α β:Type}{R:α→β→Prop}
inductive L2C(R:α→β→Prop)(v:α)(vs:List α)(xs:List β):Prop
 | mk (x:β) (r:List β) (e:xs=x::r) (h:R v x) (k:L2 R vs r)
theorem L2.inv{v:α}{vs:List α}{xs:List β}(h:L2 R (v::vs) xs):L2C R v vs xs:=Exists.elim h λ x h=>h.elim λ r h=>⟨x,r,h.1,h.2.1,h.2.2⟩
theorem L2.cons{v:α}{u:β}{vs:List α}{us:List β}(h:R v u)(hs:L2 R vs us):L2 R (v::vs) (u::us):=⟨u,us,rfl,h,hs⟩
theorem L2.monoR{S:α→β→Prop}(k:∀ a b,R a b→S a b){l:List α}:∀{xs:List β},L2 R l xs→L2 S l xs:=by
 induction l with
 | nil=>exact id
 | cons v r ih=>exact λ h=>h.imp λ y h=>h.imp λ r h=>⟨h.1,k _ _ h.2.1,ih h.2.2⟩
theorem L2.length{l:List α}:∀{xs:List β},L2 R l xs→xs.length=l.length:=by
 induction l with
 | nil=>exact λ h=>congrArg List.length h
 | cons v r ih=>exact λ h=>h.elim λ y h=>h.elim λ r h=>(congrArg List.length h.1).trans (congrArg Nat.succ (ih h.2.2))
theorem L2.get{l:List α}{v:α}:∀{xs:List β}{j:Nat},L2 R l xs→l[j]? = some v→∃ u,xs[j]? = some u∧R v u:=by
 induction l with
 | nil=>exact λ _ e=>no_some e
 | cons w r ih=>
  intro xs j h e
  refine byC λ nG=>?_
  obtain⟨y,r,rfl,h2,h3⟩:=L2.inv h
  refine nG ?_
  cases j with
  | zero=>exact⟨y,rfl,Option.some.inj e▸h2⟩
  | succ j=>exact ih (xs:=r) h3 e
theorem L2.append{ws:List α}{ys:List β}(h':L2 R ws ys){l:List α}:∀{xs:List β},L2 R l xs→L2 R (l++ws) (xs++ys):=by
 induction l with
 | nil=>intro xs h;cases (h:xs=[]);exact h'
 | cons v r ih=>exact λ h=>h.elim λ y h=>h.elim λ r h=>⟨y,r++ys,by rw [h.1];rfl,h.2.1,ih h.2.2⟩
theorem L2.take{l:List α}:∀{xs:List β} (n:Nat),L2 R l xs→L2 R (l.take n) (xs.take n):=by
 induction l with
 | nil=>intro xs n h;cases (h:xs=[]);cases n<;>exact rfl
 | cons v r ih=>
  intro xs n h
  cases n with
  | zero=>exact rfl
  | succ n=>exact h.elim λ y h=>h.elim λ r h=>⟨y,r.take n,by rw [h.1];rfl,h.2.1,ih n h.2.2⟩
theorem L2.drop{l:List α}:∀{xs:List β} (n:Nat),L2 R l xs→L2 R (l.drop n) (xs.drop n):=by
 induction l with
 | nil=>intro xs n h;cases (h:xs=[]);cases n<;>exact rfl
 | cons v r ih=>
  intro xs n h
  cases n with
  | zero=>exact h
  | succ n=>exact h.elim λ y h=>h.elim λ r h=>by rw [h.1];exact ih n h.2.2
theorem L2.set{w:α}{u:β}(hw:R w u){l:List α}:∀{xs:List β} (n:Nat),L2 R l xs→L2 R (l.set n w) (xs.set n u):=by
 induction l with
 | nil=>intro xs n h;cases (h:xs=[]);exact rfl
 | cons v r ih=>
  intro xs n h
  cases n with
  | zero=>exact h.elim λ y h=>h.elim λ r h=>⟨u,r,by rw [h.1];rfl,hw,h.2.2⟩
  | succ n=>exact h.elim λ y h=>h.elim λ r h=>⟨y,r.set n u,by rw [h.1];rfl,h.2.1,ih n h.2.2⟩
end
noncomputable def VR(K:Frag)(φ:Ph)(nw:Nw)(v:V):Value→Prop:=V.rec (motive_1:=λ _=>Value→Prop) (motive_2:=λ _=>List Value→Prop) (λ u=>u = .none) (λ b u=>u = .bool b) (λ i u=>∃ t,u = .int i t) (λ s u=>∃ t,u = .str s t) (λ b u=>∃ t,u = .bytes b t)
 (λ _ r u=>∃ a xs,u = .ref a∧TupIn K φ nw a xs∧r xs) (λ i u=>∃ a d,φ[i]? = some (a,d)∧u = .ref a) (λ w u=>u=w) (λ n u=>∃ a,u = .ref a∧RngIn φ nw a n) (λ xs=>xs=[]) (λ _ _ p i xs=>∃ x r,xs=x::r∧p x∧i r) v
noncomputable def VRs(K:Frag)(φ:Ph)(nw:Nw)(vs:List V)(xs:List Value):Prop:=L2 (VR K φ nw) vs xs
theorem rec1_eq{f1 f2 f3 f4 f5 f6 f7 f8 f9}{vs:List V}:V.rec_1 (motive_1:=λ _=>Value→Prop) (motive_2:=λ _=>List Value→Prop) f1 f2 f3 f4 f5 f6 f7 f8 f9 (λ xs=>xs=[]) (λ _ _ p i xs=>∃ x r,xs=x::r∧p x∧i r) vs =
  L2 (λ v=>V.rec (motive_1:=λ _=>Value→Prop) (motive_2:=λ _=>List Value→Prop) f1 f2 f3 f4 f5 f6 f7 f8 f9 (λ xs=>xs=[]) (λ _ _ p i xs=>∃ x r,xs=x::r∧p x∧i r) v) vs:=by
 induction vs with
 | nil=>rfl
 | cons v r ih=>
  refine funext λ xs=>congrArg Exists (funext λ x=>congrArg Exists (funext λ l=>congrArg (_∧_∧·) (congrFun ih l)))
theorem vr_tup{K:Frag}{φ:Ph}{nw:Nw}{vs:List V}{u:Value}:VR K φ nw (.tup vs) u = ∃ a xs,u = .ref a∧TupIn K φ nw a xs∧VRs K φ nw vs xs:=congrArg (λ r:List Value→Prop=>∃ a xs,u = .ref a∧TupIn K φ nw a xs∧r xs) rec1_eq
noncomputable def FE(K:Frag)(φ:Ph)(nw:Nw)(p:PySem.Str × V)(e:DictEntry):Prop:=(∃ t,e.key = .str p.1 t)∧VR K φ nw p.2 e.val
noncomputable def FR(K:Frag)(φ:Ph)(nw:Nw)(fs:List (PySem.Str × V))(es:List DictEntry):Prop:=L2 (FE K φ nw) fs es
noncomputable def ObR(K:Frag)(φ:Ph)(nw:Nw)(a d:Addr):O→Prop
 | .list vs=>a=d∧∃ o xs n,(d,o)∈nw∧o.cls = .type "list"∧o.data = .seq xs.toArray n∧VRs K φ nw vs xs∧(o.dict=none∨φ[0]? = some (a,d))
 | .inst c fs=>a∉mutA φ∧okCls K c=true∧(∃ o,(a,o)∈nw∧o.cls = .ref c∧o.dict=some d∧o.data = .plain)∧∃ es n,(d,dictOf es n)∈nw∧FR K φ nw fs es
structure Conc(K:Frag)(φ:Ph)(nw:Nw)(H:Hp):Prop where
 len:φ.length=H.length
 nd:(mutA φ).Nodup
 ob:∀(i:Nat) (a d:Addr) (o:O),φ[i]? = some (a,d)→H[i]? = some o→ObR K φ nw a d o
structure Ext(φ:Ph)(nw:Nw)(φ':Ph)(nw':Nw):Prop where
 pre:φ <+: φ'
 kx:∀ p∈nw,p.1∉mutA φ→(p∈nw'∨((∃ es n,p.2.data = .dict es n)∧∃ sl,(p.1,{p.2 with slots:=sl})∈nw'))∧p.1∉mutA φ'
theorem Ext.of{φ φ':Ph}{nw nw':Nw}(pre:φ <+: φ')(kp:∀ p∈nw,p.1∉mutA φ→p∈nw'∧p.1∉mutA φ'):Ext φ nw φ' nw':=⟨pre,λ p h n=>⟨.inl (kp p h n).1,(kp p h n).2⟩⟩
theorem Ext.ex{φ φ':Ph}{nw nw':Nw}(x:Ext φ nw φ' nw')(p:Addr × Obj)(h:p∈nw)(n:p.1∉mutA φ)(hd:∀ es k,p.2.data≠.dict es k):p∈nw'∧p.1∉mutA φ':=by
 refine byC λ nG=>?_
 obtain⟨h1 | ⟨⟨es,k,h1⟩,_⟩,h2⟩:=x.kx p h n
 refine nG ?_
 ·exact⟨h1,h2⟩
 ·exact absurd h1 (hd es k)
theorem Ext.dc{φ φ':Ph}{nw nw':Nw}(x:Ext φ nw φ' nw')(p:Addr × Obj)(h:p∈nw)(n:p.1∉mutA φ):(∃ sl,(p.1,{p.2 with slots:=sl})∈nw')∧p.1∉mutA φ':=by
 obtain⟨h1 | ⟨_,h1⟩,h2⟩:=x.kx p h n
 ·exact⟨⟨p.2.slots,h1⟩,h2⟩
 ·exact⟨h1,h2⟩
noncomputable def Solid(o:Obj):Prop:=o.cls = .type "tuple"∨o.cls = .type "range"∨(∃ a,o.cls = .ref a)∨(∃ v,o.data = .cell v)∨∃ es n,o.data = .dict es n
structure ExtS(φ:Ph)(nw:Nw)(φ':Ph)(nw':Nw):Prop where
 pre:φ <+: φ'
 kx:∀ p∈nw,p.1∉mutA φ→Solid p.2→(p∈nw'∨((∃ es n,p.2.data = .dict es n)∧∃ sl,(p.1,{p.2 with slots:=sl})∈nw'))∧p.1∉mutA φ'
theorem ExtS.kp{φ φ':Ph}{nw nw':Nw}(x:ExtS φ nw φ' nw')(p:Addr × Obj)(h:p∈nw)(n:p.1∉mutA φ)(hs:Solid p.2):(∃ sl,(p.1,{p.2 with slots:=sl})∈nw')∧p.1∉mutA φ':=by
 obtain⟨h1 | ⟨_,h1⟩,h2⟩:=x.kx p h n hs
 ·exact⟨⟨p.2.slots,h1⟩,h2⟩
 ·exact⟨h1,h2⟩
noncomputable def Val(o:Obj):Prop:=(o.cls = .type "tuple"∧∃ xs n,o.data = .seq xs n)∨(o.cls = .type "range"∧∃ fs,o.data = .fields fs)∨((∃ a,o.cls = .ref a)∧o.data = .plain)
noncomputable def valD:Data→Bool
 | .seq ..=>true
 | .fields ..=>true
 | .plain=>true
 | _=>false
theorem noV{o:Obj}{d:Data}(h:o.data=d)(hd:valD d=false):¬ Val o:=λ v=>by
 have q:valD o.data=true:=by
  rcases v with ⟨_,_,_,q⟩ | ⟨_,_,q⟩ | ⟨_,q⟩<;>(rw [q];rfl)
 rw [h,hd] at q
 cases q
structure ExtV(φ:Ph)(nw:Nw)(φ':Ph)(nw':Nw):Prop where
 pre:φ <+: φ'
 kx:∀ p∈nw,p.1∉mutA φ→Val p.2→(p∈nw'∨((∃ es n,p.2.data = .dict es n)∧∃ sl,(p.1,{p.2 with slots:=sl})∈nw'))∧p.1∉mutA φ'
theorem ExtV.kp{φ φ':Ph}{nw nw':Nw}(x:ExtV φ nw φ' nw')(p:Addr × Obj)(h:p∈nw)(n:p.1∉mutA φ)(hs:Val p.2):(∃ sl,(p.1,{p.2 with slots:=sl})∈nw')∧p.1∉mutA φ':=by
 obtain⟨h1 | ⟨_,h1⟩,h2⟩:=x.kx p h n hs
 ·exact⟨⟨p.2.slots,h1⟩,h2⟩
 ·exact⟨h1,h2⟩
theorem ExtV.ex{φ φ':Ph}{nw nw':Nw}(x:ExtV φ nw φ' nw')(p:Addr × Obj)(h:p∈nw)(n:p.1∉mutA φ)(hs:Val p.2)(hd:∀ es k,p.2.data≠.dict es k):p∈nw'∧p.1∉mutA φ':=by
 refine byC λ nG=>?_
 obtain⟨h1 | ⟨⟨es,k,h1⟩,_⟩,h2⟩:=x.kx p h n hs
 refine nG ?_
 ·exact⟨h1,h2⟩
 ·exact absurd h1 (hd es k)
theorem Val.solid{o:Obj}(h:Val o):Solid o:=h.imp And.left (Or.imp And.left λ q=>.inl q.1)
theorem ExtS.v{φ φ':Ph}{nw nw':Nw}(x:ExtS φ nw φ' nw'):ExtV φ nw φ' nw':=⟨x.pre,λ p h n hs=>x.kx p h n hs.solid⟩
theorem ExtV.get{φ φ':Ph}{nw nw':Nw}(x:ExtV φ nw φ' nw'){i:Nat}{p:Addr × Addr}(h:φ[i]? = some p):φ'[i]? = some p:=by
 obtain⟨t,rfl⟩:=x.pre
 rw [List.getElem?_append_left (by
  have:=List.getElem?_eq_some_iff.mp h
  exact this.1)]
 exact h
theorem Ext.refl(φ:Ph)(nw:Nw):Ext φ nw φ nw:=.of (List.prefix_refl _) λ _ h n=>⟨h,n⟩
theorem Ext.trans{φ φ' φ'':Ph}{nw nw' nw'':Nw}(x:Ext φ nw φ' nw')(y:Ext φ' nw' φ'' nw''):Ext φ nw φ'' nw'':=
 ⟨x.pre.trans y.pre,λ p h n=>by
  obtain⟨h1 | ⟨⟨es,k,h1⟩,sl,h1'⟩,h2⟩:=x.kx p h n
  ·exact y.kx p h1 h2
  ·obtain⟨h3 | ⟨_,sl',h3⟩,h4⟩:=y.kx _ h1' h2
   ·exact⟨.inr ⟨⟨es,k,h1⟩,sl,h3⟩,h4⟩
   ·exact⟨.inr ⟨⟨es,k,h1⟩,sl',h3⟩,h4⟩⟩
theorem Ext.s{φ φ':Ph}{nw nw':Nw}(x:Ext φ nw φ' nw'):ExtS φ nw φ' nw':=⟨x.pre,λ p h n _=>x.kx p h n⟩
theorem ExtS.get{φ φ':Ph}{nw nw':Nw}(x:ExtS φ nw φ' nw'){i:Nat}{p:Addr × Addr}(h:φ[i]? = some p):φ'[i]? = some p:=by
 obtain⟨t,rfl⟩:=x.pre
 rw [List.getElem?_append_left (by
  have:=List.getElem?_eq_some_iff.mp h
  exact this.1)]
 exact h
theorem TupIn.monoV{K:Frag}{φ φ':Ph}{nw nw':Nw}{a:Addr}{xs:List Value}(x:ExtV φ nw φ' nw')(h:TupIn K φ nw a xs):TupIn K φ' nw' a xs:=by
 rcases h with ⟨o,n,h1,h2,h3,h4⟩ | h
 ·obtain⟨⟨sl,k1⟩,k2⟩:=x.kp _ h1 h2 (.inl ⟨h3,_,_,h4⟩)
  exact .inl ⟨_,n,k1,k2,h3,h4⟩
 ·exact .inr h
theorem RngIn.monoV{φ φ':Ph}{nw nw':Nw}{a:Addr}{n:Int}(x:ExtV φ nw φ' nw')(h:RngIn φ nw a n):RngIn φ' nw' a n:=by
 refine byC λ nG=>?_
 obtain⟨t,u,v,h1,h2⟩:=h
 obtain⟨k1,k2⟩:=x.ex _ h1 h2 (.inr (.inl ⟨rfl,_,rfl⟩)) (λ es k q=>by cases q)
 refine nG ?_
 exact⟨t,u,v,k1,k2⟩
theorem VR.monoV{K:Frag}{φ φ':Ph}{nw nw':Nw}(x:ExtV φ nw φ' nw')(v:V):∀ u,VR K φ nw v u→VR K φ' nw' v u:=
 V.rec (motive_1:=λ v=>∀ u,VR K φ nw v u→VR K φ' nw' v u) (motive_2:=λ vs=>∀ xs,VRs K φ nw vs xs→VRs K φ' nw' vs xs) (λ _ h=>h) (λ _ _ h=>h) (λ _ _ h=>h) (λ _ _ h=>h) (λ _ _ h=>h)
  (λ _ i _ h=>Eq.mpr vr_tup (Exists.imp (λ a h=>h.imp λ xs h=>⟨h.1,h.2.1.monoV x,i xs h.2.2⟩) (Eq.mp vr_tup h))) (λ _ _ h=>h.imp λ a h=>h.imp λ d h=>⟨x.get h.1,h.2⟩) (λ _ _ h=>h) (λ _ _ h=>h.imp λ a h=>⟨h.1,h.2.monoV x⟩)
  (λ _ h=>h) (λ _ _ p i _ h=>h.imp λ y h=>h.imp λ r h=>⟨h.1,p y h.2.1,i r h.2.2⟩) v
theorem VRs.monoV{K:Frag}{φ φ':Ph}{nw nw':Nw}(x:ExtV φ nw φ' nw')(vs:List V)(xs:List Value)(h:VRs K φ nw vs xs):VRs K φ' nw' vs xs:=L2.monoR (VR.monoV x) h
theorem FR.monoV{K:Frag}{φ φ':Ph}{nw nw':Nw}(x:ExtV φ nw φ' nw')(fs:List (PySem.Str × V))(es:List DictEntry)(h:FR K φ nw fs es):FR K φ' nw' fs es:=L2.monoR (λ _ _ h=>⟨h.1,VR.monoV x _ _ h.2⟩) h
theorem TupIn.mono{K:Frag}{φ φ':Ph}{nw nw':Nw}{a:Addr}{xs:List Value}(x:ExtS φ nw φ' nw')(h:TupIn K φ nw a xs):TupIn K φ' nw' a xs:=h.monoV x.v
theorem VR.mono{K:Frag}{φ φ':Ph}{nw nw':Nw}(x:ExtS φ nw φ' nw')(v:V)(u:Value)(h:VR K φ nw v u):VR K φ' nw' v u:=VR.monoV x.v v u h
theorem VRs.mono{K:Frag}{φ φ':Ph}{nw nw':Nw}(x:ExtS φ nw φ' nw')(vs:List V)(xs:List Value)(h:VRs K φ nw vs xs):VRs K φ' nw' vs xs:=VRs.monoV x.v vs xs h
theorem FR.mono{K:Frag}{φ φ':Ph}{nw nw':Nw}(x:ExtS φ nw φ' nw')(fs:List (PySem.Str × V))(es:List DictEntry)(h:FR K φ nw fs es):FR K φ' nw' fs es:=FR.monoV x.v fs es h
section
variable{K:Frag}{φ:Ph}{nw:Nw}
theorem VRs.length{vs:List V}{xs:List Value}(h:VRs K φ nw vs xs):xs.length=vs.length:=L2.length h
theorem VRs.get{vs:List V}{xs:List Value}{j:Nat}{v:V}(h:VRs K φ nw vs xs)(e:vs[j]? = some v):∃ u,xs[j]? = some u∧VR K φ nw v u:=L2.get h e
theorem VRs.append{vs ws:List V}{xs ys:List Value}(h:VRs K φ nw vs xs)(h':VRs K φ nw ws ys):VRs K φ nw (vs++ws) (xs++ys):=L2.append h' h
theorem VRs.take{vs:List V}{xs:List Value}(n:Nat)(h:VRs K φ nw vs xs):VRs K φ nw (vs.take n) (xs.take n):=L2.take n h
theorem VRs.drop{vs:List V}{xs:List Value}(n:Nat)(h:VRs K φ nw vs xs):VRs K φ nw (vs.drop n) (xs.drop n):=L2.drop n h
theorem VRs.set{vs:List V}{xs:List Value}(n:Nat){w:V}{u:Value}(h:VRs K φ nw vs xs)(hw:VR K φ nw w u):VRs K φ nw (vs.set n w) (xs.set n u):=L2.set hw n h
theorem VRs.one{v:V}{u:Value}(h:VR K φ nw v u):VRs K φ nw [v] [u]:=⟨u,[],rfl,h,rfl⟩
theorem VRs.nil:VRs K φ nw [] []:=rfl
theorem VRs.cons{v:V}{u:Value}{vs:List V}{us:List Value}(h:VR K φ nw v u)(hs:VRs K φ nw vs us):VRs K φ nw (v::vs) (u::us):=⟨u,us,rfl,h,hs⟩
theorem FR.find(x:PySem.Str){fs:List (PySem.Str × V)}:∀{es:List DictEntry},FR K φ nw fs es→
  (lk x fs).elim (es.find? (·.key.isStr x)=none) λ v=>∃ e,es.find? (·.key.isStr x)=some e∧VR K φ nw v e.val:=by
 induction fs with
 | nil=>intro es h;cases (h:es=[]);rfl
 | cons p fs ih=>
  intro es h
  refine byC λ nG=>?_
  obtain⟨e,r,rfl,⟨⟨t,h2⟩,h3⟩,h4⟩:=L2.inv h
  refine nG ?_
  have hk:e.key.isStr x=(p.1==x):=by rw [h2];rfl
  rw [List.find?_cons,hk]
  show Option.elim (if(p.1==x)=true then some p.2 else lk x fs) _ _
  cases p.1==x with
  | true=>exact⟨e,rfl,h3⟩
  | false=>exact ih h4
theorem FR.noRef{fs:List (PySem.Str × V)}:∀{es:List DictEntry},FR K φ nw fs es→es.any (·.refKey)=false:=by
 induction fs with
 | nil=>intro es h;cases (h:es=[]);rfl
 | cons p fs ih=>
  intro es h
  refine byC λ nG=>?_
  obtain⟨e,r,rfl,⟨⟨t,h2⟩,h3⟩,h4⟩:=L2.inv h
  refine nG ?_
  rw [List.any_cons,ih h4,Bool.or_false]
  unfold DictEntry.refKey
  rw [h2]
theorem FR.length{fs:List (PySem.Str × V)}{es:List DictEntry}(h:FR K φ nw fs es):es.length=fs.length:=L2.length h
theorem FR.getL_some{x:PySem.Str}{fs:List (PySem.Str × V)}{es:List DictEntry}{v:V}(h:FR K φ nw fs es)(e:lk x fs=some v):∃ u,getL x es=some (some u)∧VR K φ nw v u:=by
 have:=FR.find x h
 rw [e] at this
 exact this.elim λ d h=>⟨d.val,by unfold getL;rw [h.1],h.2⟩
theorem FR.getL_none{x:PySem.Str}{fs:List (PySem.Str × V)}{es:List DictEntry}(h:FR K φ nw fs es)(e:lk x fs=none):getL x es=some none:=by
 have:=FR.find x h
 rw [e] at this
 unfold getL
 rw [show es.find? _=none from this,FR.noRef h];rfl
theorem FR.getL_isSome{x:PySem.Str}{fs:List (PySem.Str × V)}{es:List DictEntry}(h:FR K φ nw fs es):(getL x es).isSome=true:=
 oC (lk x fs) (λ e=>by rw [h.getL_none e];rfl) λ v e=>(h.getL_some e).elim λ u h=>by rw [h.1];rfl
theorem FR.put{x:PySem.Str}{w:V}{u:Value}{hs:Int}{t:Tok}(hw:VR K φ nw w u){fs:List (PySem.Str × V)}:∀{es:List DictEntry},FR K φ nw fs es→FR K φ nw (put x w fs) (putL x hs (.str x t) u es):=by
 induction fs with
 | nil=>intro es h;cases (h:es=[]);exact⟨_,_,rfl,⟨⟨t,rfl⟩,hw⟩,rfl⟩
 | cons p fs ih=>
  intro es h
  refine byC λ nG=>?_
  obtain⟨e,r,rfl,⟨⟨t',h2⟩,h3⟩,h4⟩:=L2.inv h
  refine nG ?_
  have hk:e.key.isStr x=(p.1==x):=by rw [h2];rfl
  show L2 _ (if p.1==x then(p.1,w)::fs else p::VS.Internal.put x w fs) _
  simp only [putL,hk]
  cases p.1==x with
  | true=>exact⟨_,_,rfl,⟨⟨t',h2⟩,hw⟩,h4⟩
  | false=>exact⟨_,_,rfl,⟨⟨t',h2⟩,h3⟩,ih h4⟩
theorem put_length(x:PySem.Str)(w:V)(fs:List (PySem.Str × V)):(put x w fs).length≤fs.length+1:=by
 induction fs with
 | nil=>exact Nat.le_refl _
 | cons p fs ih=>
  show(if p.1==x then(p.1,w)::fs else p::put x w fs).length≤_
  cases p.1==x with
  | true=>exact Nat.le_succ _
  | false=>exact Nat.succ_le_succ ih
end
noncomputable def nset(nw:Nw)(d:Addr)(o:Obj):Nw:=(d,o)::nw.filter λ p=>!(p.1==d)
theorem mem_nset_self{nw:Nw}{d:Addr}{o:Obj}:(d,o)∈nset nw d o:=.head _
theorem mem_nset{nw:Nw}{d:Addr}{o:Obj}{p:Addr × Obj}(h:p∈nw)(hd:p.1≠d):p∈nset nw d o:=
 .tail _ (List.mem_filter.mpr ⟨h,by simp [hd]⟩)
theorem ext_nset{φ:Ph}{nw:Nw}{d:Addr}{o:Obj}(hd:d∈mutA φ):Ext φ nw φ (nset nw d o):=
 .of (List.prefix_refl _) λ p h n=>⟨mem_nset h λ e=>n (e▸hd),n⟩
theorem news_split{h₀ h:Heap}{L d:Addr}{o:Obj}{nw:Nw}(N:News h₀ L h nw)(hd:(d,o)∈nw):News h₀ L h ((d,o)::nw.filter λ p=>!(p.1==d)):=λ p hp=>by
 rcases List.mem_cons.mp hp with rfl | hp
 ·exact N _ hd
 ·exact N _ (List.mem_filter.mp hp).1
theorem filter_ne{nw:Nw}{d:Addr}:∀ p∈nw.filter (λ p=>!(p.1==d)),p.1≠d:=λ p hp=>by
 have:=(List.mem_filter.mp hp).2
 simpa using this
theorem upd_nset{nw:Nw}{d:Addr}{o o':Obj}:Upd d o o' ((d,o)::nw.filter λ p=>!(p.1==d)) (nset nw d o'):=.head filter_ne
section
variable{K:Frag}{φ:Ph}{nw:Nw}{H:Hp}
theorem mutA_of{i:Nat}{a d:Addr}(h:φ[i]? = some (a,d)):d∈mutA φ:=List.mem_map.mpr ⟨(a,d),List.mem_of_getElem? h,rfl⟩
theorem mutA_inj(nd:(mutA φ).Nodup){i j:Nat}{a b d:Addr}(h:φ[i]? = some (a,d))(h':φ[j]? = some (b,d)):i=j:=by
 have e1:(mutA φ)[i]? = some d:=by unfold mutA;rw [List.getElem?_map,h];rfl
 have e2:(mutA φ)[j]? = some d:=by unfold mutA;rw [List.getElem?_map,h'];rfl
 obtain⟨hi,e1'⟩:=List.getElem?_eq_some_iff.mp e1
 obtain⟨hj,e2'⟩:=List.getElem?_eq_some_iff.mp e2
 exact(List.getElem_inj nd).mp (e1'.trans e2'.symm)
theorem ObR.extV{φ':Ph}{nw':Nw}{a d:Addr}{o:O}(x:ExtV φ nw φ' nw')(hd:∀ ob,(d,ob)∈nw→(d,ob)∈nw')(ha:a∉mutA φ→a∉mutA φ')(h:ObR K φ nw a d o):ObR K φ' nw' a d o:=by
 cases o with
 | list vs=>
  refine byC λ nG=>?_
  obtain⟨h1,o,xs,n,h2,h2b,h2c,h3,h5⟩:=h
  refine nG ?_
  exact⟨h1,o,xs,n,hd _ h2,h2b,h2c,VRs.monoV x _ _ h3,h5.imp id x.get⟩
 | inst c fs=>
  refine byC λ nG=>?_
  obtain⟨h1,h0,⟨o,h2,h2b,h2c,h2d⟩,es,n,h3,h4⟩:=h
  obtain⟨sl,k⟩:=(x.kp _ h2 h1 (.inr (.inr ⟨⟨_,h2b⟩,h2d⟩))).1
  refine nG ?_
  exact⟨ha h1,h0,⟨_,k,h2b,h2c,h2d⟩,es,n,hd _ h3,FR.monoV x _ _ h4⟩
theorem ObR.ext{φ':Ph}{nw':Nw}{a d:Addr}{o:O}(x:ExtS φ nw φ' nw')(hd:∀ ob,(d,ob)∈nw→(d,ob)∈nw')(ha:a∉mutA φ→a∉mutA φ')(h:ObR K φ nw a d o):ObR K φ' nw' a d o:=h.extV x.v hd ha
theorem Conc.set{i:Nat}{a d:Addr}{o:O}{ob:Obj}(C:Conc K φ nw H)(hi:φ[i]? = some (a,d))(ho:ObR K φ (nset nw d ob) a d o):Conc K φ (nset nw d ob) (H.set i o) where
 len:=by simp only [List.length_set];exact C.len
 nd:=C.nd
 ob:=λ j b e o' hj hH=>by
  by_cases hij:i=j
  ·subst hij
   rw [hi] at hj;cases hj
   have hlt:i<H.length:=by rw [←C.len];exact(List.getElem?_eq_some_iff.mp hi).1
   rw [List.getElem?_set_self hlt] at hH;cases hH
   exact ho
  ·rw [List.getElem?_set_ne hij] at hH
   have hne:e≠d:=λ q=>hij (mutA_inj C.nd hi (q▸hj))
   exact(C.ob j b e o' hj hH).ext (ext_nset (mutA_of hi)).s (λ x hx=>mem_nset hx hne) id
theorem ext_sub{nw':Nw}(hs:∀ p∈nw,p∈nw'):Ext φ nw φ nw':=.of (List.prefix_refl _) λ _ h n=>⟨hs _ h,n⟩
theorem Conc.sub{nw':Nw}(C:Conc K φ nw H)(hs:∀ p∈nw,p∈nw'):Conc K φ nw' H:=
 ⟨C.len,C.nd,λ i a d o hi ho=>(C.ob i a d o hi ho).ext (ext_sub hs).s (λ _ h=>hs _ h) id⟩
theorem Conc.chgV{nw':Nw}(C:Conc K φ nw H)(x:ExtV φ nw φ nw')(hd:∀ d∈mutA φ,∀ o,(d,o)∈nw→(d,o)∈nw'):Conc K φ nw' H:=
 ⟨C.len,C.nd,λ i a d o hi ho=>(C.ob i a d o hi ho).extV x (λ ob h=>hd d (mutA_of hi) ob h) id⟩
theorem Conc.chg{nw':Nw}(C:Conc K φ nw H)(x:ExtS φ nw φ nw')(hd:∀ d∈mutA φ,∀ o,(d,o)∈nw→(d,o)∈nw'):Conc K φ nw' H:=
 ⟨C.len,C.nd,λ i a d o hi ho=>(C.ob i a d o hi ho).ext x (λ ob h=>hd d (mutA_of hi) ob h) id⟩
theorem ext_new{nw':Nw}{a d:Addr}(hs:∀ p∈nw,p∈nw')(hd:∀ p∈nw,p.1≠d):Ext φ nw (φ++[(a,d)]) nw':=
 .of (List.prefix_append _ _) λ p h n=>⟨hs _ h,λ q=>by
  unfold mutA at q
  rw [List.map_append,List.mem_append] at q
  rcases q with q | q
  ·exact n q
  ·simp at q;exact hd p h q⟩
theorem ObR.own{a d:Addr}{o:O}(h:ObR K φ nw a d o):(∃ o,(d,o)∈nw)∧∃ o,(a,o)∈nw:=by
 cases o with
 | list vs=>exact h.2.elim λ o k=>k.elim λ xs k=>k.elim λ n k=>⟨⟨o,k.1⟩,⟨o,h.1▸k.1⟩⟩
 | inst c fs=>exact⟨h.2.2.2.elim λ es k=>k.elim λ n k=>⟨_,k.1⟩,h.2.2.1.imp λ o k=>k.1⟩
theorem Conc.own(C:Conc K φ nw H){i:Nat}{a d:Addr}(hi:φ[i]? = some (a,d)):(∃ o,(d,o)∈nw)∧∃ o,(a,o)∈nw:=
 ObR.own (C.ob i a d _ hi (List.getElem?_eq_getElem (C.len▸(List.getElem?_eq_some_iff.mp hi).1)))
theorem Conc.owned(C:Conc K φ nw H){d:Addr}(hd:d∈mutA φ):∃ o,(d,o)∈nw:=
 (List.mem_map.mp hd).elim λ p h=>h.2▸(List.getElem?_of_mem h.1).elim λ i hi=>(C.own (i:=i) (a:=p.1) (d:=p.2) hi).1
theorem Conc.owned1(C:Conc K φ nw H){i:Nat}{a d:Addr}(hi:φ[i]? = some (a,d)):∃ o,(a,o)∈nw:=(C.own hi).2
theorem Conc.new{nw':Nw}{a d:Addr}{o:O}(C:Conc K φ nw H)(hs:∀ p∈nw,p∈nw')(hd:∀ p∈nw,p.1≠d)(ho:ObR K (φ++[(a,d)]) nw' a d o):Conc K (φ++[(a,d)]) nw' (H++[o]) where
 len:=by simp [C.len]
 nd:=by
  unfold mutA
  rw [List.map_append,List.nodup_append]
  refine⟨C.nd,by simp,λ x hx y hy=>?_⟩
  simp at hy
  rw [hy]
  intro q
  obtain⟨ob,h⟩:=C.owned (d:=x) hx
  exact hd _ h q
 ob:=λ i b e o' hi hH=>by
  rcases Nat.lt_or_ge i φ.length with hlt | hge
  ·rw [List.getElem?_append_left hlt] at hi
   rw [List.getElem?_append_left (by rw [←C.len];exact hlt)] at hH
   refine(C.ob i b e o' hi hH).ext (ext_new hs hd).s (λ x hx=>hs _ hx) λ hb q=>?_
   unfold mutA at q
   rw [List.map_append,List.mem_append] at q
   rcases q with q | q
   ·exact hb q
   ·simp at q
    obtain⟨ob,h⟩:=C.owned1 hi
    exact hd _ h q
  ·have:i=φ.length:=by
    have:=(List.getElem?_eq_some_iff.mp hi).1
    simp at this;lia
   subst this
   simp at hi
   rw [C.len] at hH
   simp at hH
   obtain⟨rfl,rfl⟩:=hi
   subst hH
   exact ho
end
end VS.Internal
end
section
open PySem PySem.W PyProof.Rows
set_option backward.match.sparseCases false
namespace VS.Internal
noncomputable def Run{α:Type}(r:R α)(P:α→Hp→Prop)(X:Addr→Hp→Prop):Prop:=r.f P X
theorem run_bind{α β:Type}{m:M α}{f:α→M β}{H:Hp}{P:β→Hp→Prop}{X:Addr→Hp→Prop} :
  Run ((m >>= f) H) P X=Run (m H) (λ a h=>Run (f a h) P X) X:=rfl
theorem run_bind'{α β:Type}{m:M α}{f:α→M β}{H:Hp}{P:β→Hp→Prop}{X:Addr→Hp→Prop} :
  Run (M.bind m f H) P X=Run (m H) (λ a h=>Run (f a h) P X) X:=run_bind
theorem run_pure{α:Type}{a:α}{H:Hp}{P:α→Hp→Prop}{X:Addr→Hp→Prop}:Run ((pure a:M α) H) P X=P a H:=rfl
theorem run_pure'{α:Type}{a:α}{H:Hp}{P:α→Hp→Prop}{X:Addr→Hp→Prop}:Run (M.pure a H) P X=P a H:=rfl
theorem run_no{α:Type}{H:Hp}{P:α→Hp→Prop}{X:Addr→Hp→Prop}:Run ((no:M α) H) P X=False:=rfl
theorem Run.mono{α:Type}{r:R α}{P P':α→Hp→Prop}{X X':Addr→Hp→Prop}(h:Run r P X)(hP:∀ a h,P a h→P' a h)(hX:∀ c h,X c h→X' c h):Run r P' X':=r.good.mono h hP hX
theorem onRef_is{α:Type}{k:Nat→M α}{v:V}{H:Hp}{P:α→Hp→Prop}{X:Addr→Hp→Prop}(h:Run (onRef k v H) P X):∃ i,v = .ref i∧Run (k i H) P X:=by
 revert h
 cases v with
 | ref i=>exact λ h=>⟨i,rfl,h⟩
 | _=>exact False.elim
theorem onInt_is{α:Type}{k:Int→M α}{v:V}{H:Hp}{P:α→Hp→Prop}{X:Addr→Hp→Prop}(h:Run (onInt k v H) P X):∃ i,v = .int i∧Run (k i H) P X:=by
 revert h
 cases v with
 | int i=>exact λ h=>⟨i,rfl,h⟩
 | _=>exact False.elim
theorem onSta_is{α:Type}{k:Value→M α}{v:V}{H:Hp}{P:α→Hp→Prop}{X:Addr→Hp→Prop}(h:Run (onSta k v H) P X):∃ i,v = .sta i∧Run (k i H) P X:=by
 revert h
 cases v with
 | sta i=>exact λ h=>⟨i,rfl,h⟩
 | _=>exact False.elim
theorem onBool_is{α:Type}{k:Bool→M α}{v:V}{H:Hp}{P:α→Hp→Prop}{X:Addr→Hp→Prop}(h:Run (onBool k v H) P X):∃ i,v = .bool i∧Run (k i H) P X:=by
 revert h
 cases v with
 | bool i=>exact λ h=>⟨i,rfl,h⟩
 | _=>exact False.elim
theorem onNone_is{α:Type}{k:M α}{v:V}{H:Hp}{P:α→Hp→Prop}{X:Addr→Hp→Prop}(h:Run (onNone k v H) P X):v = .none∧Run (k H) P X:=by
 revert h
 cases v with
 | none=>exact λ h=>⟨rfl,h⟩
 | _=>exact False.elim
theorem unT_is{α:Type}{k:List V→M α}{v:V}{H:Hp}{P:α→Hp→Prop}{X:Addr→Hp→Prop}(h:Run (unT v k H) P X):∃ i,v = .tup i∧Run (k i H) P X:=by
 revert h
 cases v with
 | tup i=>exact λ h=>⟨i,rfl,h⟩
 | _=>exact False.elim
theorem onInst_is{α:Type}{k:Addr→List (PySem.Str × V)→M α}{o:O}{H:Hp}{P:α→Hp→Prop}{X:Addr→Hp→Prop}(h:Run (onInst k o H) P X):∃ c fs,o = .inst c fs∧Run (k c fs H) P X:=by
 cases o with
 | inst c fs=>exact⟨c,fs,rfl,h⟩
 | list=>exact h.elim
theorem onL_is{α:Type}{k:List V→M α}{o:O}{H:Hp}{P:α→Hp→Prop}{X:Addr→Hp→Prop}(h:Run (onL k o H) P X):∃ xs,o = .list xs∧Run (k xs H) P X:=by
 cases o with
 | inst=>exact h.elim
 | list xs=>exact⟨xs,rfl,h⟩
theorem rIf{α:Type}{p:Prop}[Decidable p]{t:M α}{H:Hp}{P:α→Hp→Prop}{X:Addr→Hp→Prop}(h:Run ((if p then t else no) H) P X):p∧Run (t H) P X:=by
 by_cases q:p
 ·rw [if_pos q] at h;exact⟨q,h⟩
 ·rw [if_neg q] at h;exact h.elim
theorem rNo{α:Type}{p:Prop}[Decidable p]{t:M α}{H:Hp}{P:α→Hp→Prop}{X:Addr→Hp→Prop}(h:Run ((if p then no else t) H) P X):¬ p∧Run (t H) P X:=by
 by_cases q:p
 ·rw [if_pos q] at h;exact h.elim
 ·rw [if_neg q] at h;exact⟨q,h⟩
theorem rNoB{α:Type}{b:Bool}{t:M α}{H:Hp}{P:α→Hp→Prop}{X:Addr→Hp→Prop}(h:Run ((if b then no else t) H) P X):b=false∧Run (t H) P X:=by
 cases b with
 | true=>exact h.elim
 | false=>exact⟨rfl,h⟩
theorem run_elim{α β:Type}{o:Option α}{n:M β}{f:α→M β}{H:Hp}{P:β→Hp→Prop}{X:Addr→Hp→Prop}{G:Prop}(h:Run ((o.elim n f) H) P X)(hn:o=none→Run (n H) P X→G)(hs:∀ a,o=some a→Run (f a H) P X→G):G:=by
 cases o with
 | none=>exact hn rfl h
 | some a=>exact hs a rfl h
theorem turn_is{α:Type}{s:Src}{k:Nat}{e:M α}{f:V→M α}{H:Hp}{P:α→Hp→Prop}{X:Addr→Hp→Prop}(h:Run (turn s k e f H) P X):∃ r,itemAt s k H=some r∧Run (r.elim (e H) λ v=>f v H) P X:=by
 unfold turn at h
 cases q:itemAt s k H with
 | none=>rw [q] at h;exact h.elim
 | some r=>rw [q] at h;cases r with
  | none=>exact⟨none,rfl,h⟩
  | some v=>exact⟨some v,rfl,h⟩
inductive RunO{α:Type}(o:Option α)(H:Hp)(P:α→Hp→Prop):Prop
 | mk (a:α) (e:o=some a) (h:P a H)
theorem RunO.elim{α:Type}{o:Option α}{H:Hp}{P:α→Hp→Prop}{G:Prop}(h:RunO o H P)(k:∀ a,o=some a→P a H→G):G:=by
 cases h with | mk a e h=>exact k a e h
theorem run_ofO{α:Type}{o:Option α}{H:Hp}{P:α→Hp→Prop}{X:Addr→Hp→Prop}(h:Run (ofO o H) P X):RunO o H P:=by
 cases o with
 | none=>exact h.elim
 | some a=>exact⟨a,rfl,h⟩
inductive RunS{α:Type}(o:Option α)(P:α→Prop):Prop
 | mk (a:α) (e:o=some a) (h:P a)
theorem onSome_is{α β:Type}{k:α→M β}{o:Option α}{H:Hp}{P:β→Hp→Prop}{X:Addr→Hp→Prop}(h:Run (onSome o k H) P X):RunS o λ a=>Run (k a H) P X:=by
 cases o with
 | none=>exact h.elim
 | some a=>exact⟨a,rfl,h⟩
theorem run_getO{i:Nat}{H:Hp}{P:O→Hp→Prop}{X:Addr→Hp→Prop}(h:Run (getO i H) P X):RunO H[i]? H P:=by
 unfold getO at h
 cases e:H[i]? with
 | none=>rw [e] at h;exact h.elim
 | some o=>rw [e] at h;exact⟨o,rfl,h⟩
structure G0 where
 prog:Program
 w:World
 K:Frag
 p:Program
 loose:List PySem.Str
 mg:PySem.Str→Option Value
 mb:PySem.Str→Option Value
structure Cx where
 A:Around
 env₀:Env
 outer:List Env
 b₀:Heap
 L:Addr
structure Fx(g:G0)(c:Cx):Prop where
 X:g.K.In c.b₀
 T:TopRead g.p g.loose g.mg g.mb c.b₀
 fr:c.A.frames=some (c.env₀ :: c.outer)
 hf:c.env₀.frame=some c.L
 hke:c.env₀.scope.kind = .function
noncomputable def FrsOk(φ:Ph)(nw:Nw)(l:List Env):Prop:=
 ∀ env∈l,env.scope.kind≠.module∧∃ L o es ep,env.frame=some L∧(L,o)∈nw∧L∉mutA φ∧o.data = .dict es ep
noncomputable def HOk(A:Around)(φ:Ph)(nw:Nw):Prop:=
 A.handled=none∨∃ e o vs C,A.handled=some (.ref e)∧(e,o)∈nw∧e∉mutA φ∧o.cls = .ref C∧o.data = .fields vs∧vs[2]? = some .none
theorem FrsOk.mono{φ φ':Ph}{nw nw':Nw}{l:List Env}(x:ExtS φ nw φ' nw')(h:FrsOk φ nw l):FrsOk φ' nw' l:=λ env he=>by
 refine byC λ nG=>?_
 obtain⟨h1,L,_,es,ep,h2,h3,h4,h5⟩:=h env he
 obtain⟨⟨_,k1⟩,k2⟩:=x.kp _ h3 h4 (.inr (.inr (.inr (.inr ⟨_,_,h5⟩))))
 exact nG ⟨h1,L,_,es,ep,h2,k1,k2,h5⟩
theorem HOk.mono{A:Around}{φ φ':Ph}{nw nw':Nw}(x:ExtS φ nw φ' nw')(h:HOk A φ nw):HOk A φ' nw':=by
 rcases h with h | ⟨e,o,vs,C,h1,h2,h3,h4,h5,h6⟩
 ·exact .inl h
 ·obtain⟨⟨sl,k1⟩,k2⟩:=x.kp _ h2 h3 (.inr (.inr (.inl ⟨_,h4⟩)))
  exact .inr ⟨e,_,vs,C,h1,k1,k2,h4,h5,h6⟩
structure St(g:G0)(c:Cx)(m:PySem.Str→Option Value)(φ:Ph)(nw:Nw)(H:Hp)(s:Shared):Prop where
 F:Fr c.b₀ c.L s.heap m
 N:News c.b₀ c.L s.heap nw
 C:Conc g.K φ nw H
 fo:FrsOk φ nw c.outer
 ho:HOk c.A φ nw
noncomputable def Upto(s s':Shared):Prop:=∃ h tk,s' = {s with heap:=h,toks:=tk}
theorem Upto.refl(s:Shared):Upto s s:=⟨s.heap,s.toks,rfl⟩
theorem Upto.trans{s s' s'':Shared}(x:Upto s s')(y:Upto s' s''):Upto s s'':=by
 obtain⟨h,tk,rfl⟩:=x
 obtain⟨h',tk',rfl⟩:=y
 exact⟨h',tk',rfl⟩
noncomputable def ObjNs(o:Obj)(m:PySem.Str→Option Value):Prop:=∃ es ep,o.data = .dict es ep∧StrKeys es∧∀ x,nsFind es x=m x
noncomputable def isCel(k:NameKind):Bool:=k == .cell||k == .free
structure EnvOk(g:G0)(c:Cx)(env:Env)(sc:Scope)(ρ:Lo)(m:PySem.Str→Option Value)(φ:Ph)(nw:Nw):Prop where
 kind:env.scope.kind = .function
 glob:env.globals=mainGlobals
 bi:env.builtins=builtinsNs
 frm:env.frame=some c.L
 scl:∀ x,sc.names.lookup x=some .local→env.kindOf x=some .local
 scg:∀ x,sc.names.lookup x=some .globalImplicit→env.kindOf x=some .globalImplicit
 scc:∀ x,sc.names.lookup x=some .cell∨sc.names.lookup x=some .free→env.kindOf x=some .cell∨env.kindOf x=some .free
 loc:(env.locals=c.L∧∀ x v,sc.names.lookup x=some .local→lk x ρ=some v→∃ u,m x=some u∧VR g.K φ nw v u)∨
  ∃ o m₂,(env.locals,o)∈nw∧env.locals∉mutA φ∧ObjNs o m₂∧∀ x v,sc.names.lookup x=some .local→lk x ρ=some v→∃ u,m₂ x=some u∧VR g.K φ nw v u
 cel:∀ x v,(sc.names.lookup x=some .cell∨sc.names.lookup x=some .free)→lk x ρ=some v→
  ∃ cc o u,env.cells.lookup x=some cc∧(cc,o)∈nw∧cc∉mutA φ∧o.data = .cell (some u)∧VR g.K φ nw v u
theorem EnvOk.mono{g:G0}{c:Cx}{env:Env}{sc:Scope}{ρ:Lo}{m:PySem.Str→Option Value}{φ φ':Ph}{nw nw':Nw}(x:ExtS φ nw φ' nw')(h:EnvOk g c env sc ρ m φ nw):EnvOk g c env sc ρ m φ' nw' where
 kind:=h.kind
 glob:=h.glob
 bi:=h.bi
 frm:=h.frm
 scl:=h.scl
 scg:=h.scg
 scc:=h.scc
 loc:=by
  rcases h.loc with ⟨h1,h2⟩ | ⟨o,m₂,h1,h2,⟨es,ep,h3,h3b,h3c⟩,h4⟩
  ·exact .inl ⟨h1,λ y v hy e=>let ⟨u,e1,e2⟩:=h2 y v hy e;⟨u,e1,VR.mono x _ _ e2⟩⟩
  ·obtain⟨⟨sl,k1⟩,k2⟩:=x.kp _ h1 h2 (.inr (.inr (.inr (.inr ⟨_,_,h3⟩))))
   exact .inr ⟨_,m₂,k1,k2,⟨es,ep,h3,h3b,h3c⟩,λ y v hy e=>let ⟨u,e1,e2⟩:=h4 y v hy e;⟨u,e1,VR.mono x _ _ e2⟩⟩
 cel:=λ y v hy e=>by
  refine byC λ nG=>?_
  obtain⟨cc,o,u,h1,h2,h3,h4,h5⟩:=h.cel y v hy e
  obtain⟨⟨sl,k1⟩,k2⟩:=x.kp _ h2 h3 (.inr (.inr (.inr (.inl ⟨_,h4⟩))))
  refine nG ?_
  exact⟨cc,_,u,h1,k1,k2,h4,VR.mono x _ _ h5⟩
inductive FlyB(b₀:Heap)(L:Addr)(nw:Nw)(e:Addr)(vs:Array Value)(h:Heap):Prop
 | mk (T:Addr) (oT:Obj) (ts:Array Value) (k1:vs[1]? = some (.ref T)) (k2:h.get? T=some oT) (k3:oT.data = .fields ts) (k4:ts[3]? = some .none∨ts[3]? = some (rawInt L)) (k5:T≠e) (k6:b₀.get? T=none) (k7:T≠L) (k8:∀ p∈nw,p.1≠T)
inductive FlyE(b₀:Heap)(L:Addr)(nw:Nw)(e:Addr)(C:Value)(h:Heap):Prop
 | mk (oe:Obj) (vs:Array Value) (h1:h.get? e=some oe) (h2:oe.cls=C) (h3:oe.data = .fields vs) (h4:vs[2]? = some .none) (h5:vs[1]? = some .none∨FlyB b₀ L nw e vs h)
structure Fly(b₀:Heap)(L:Addr)(nw:Nw)(e:Addr)(C:Value)(h:Heap):Prop where
 x:FlyE b₀ L nw e C h
 e0:b₀.get? e=none
 eL:e≠L
 en:∀ p∈nw,p.1≠e
inductive PostG{α β:Type}(Rel:Ph→Nw→α→β→Prop)(g:G0)(c:Cx)(m:PySem.Str→Option Value)(φ:Ph)(nw:Nw)(P:α→Hp→Prop)(s:Shared)(u:β)(s':Shared):Prop
 | mk (φ':Ph) (nw':Nw) (H':Hp) (a:α) (S:St g c m φ' nw' H' s') (x:Ext φ nw φ' nw') (r:Rel φ' nw' a u) (p:P a H') (k:Upto s s')
abbrev PostE(g:G0)(c:Cx)(m:PySem.Str→Option Value)(φ:Ph)(nw:Nw)(P:V→Hp→Prop)(s:Shared):Value→Shared→Prop:=PostG (VR g.K) g c m φ nw P s
inductive PostX(g:G0)(c:Cx)(m:PySem.Str→Option Value)(φ:Ph)(nw:Nw)(X:Addr→Hp→Prop)(s:Shared)(u:Value)(s':Shared):Prop
 | mk (e C:Addr) (φ':Ph) (nw':Nw) (H':Hp) (q:u = .ref e) (S:St g c m φ' nw' H' s') (x:Ext φ nw φ' nw') (f:Fly c.b₀ c.L nw' e (.ref C) s'.heap) (p:X C H') (k:Upto s s')
section
variable{g:G0}{c:Cx}{m:PySem.Str→Option Value}{φ φ' φ'':Ph}{nw nw' nw'':Nw}{H H':Hp}{s s':Shared}
theorem PostE.of{P:V→Hp→Prop}{v:V}{u:Value}(S:St g c m φ' nw' H' s')(x:Ext φ nw φ' nw')(hv:VR g.K φ' nw' v u)(hP:P v H')(hu:Upto s s'):PostE g c m φ nw P s u s':=
 ⟨φ',nw',H',v,S,x,hv,hP,hu⟩
theorem PostE.mono{P:V→Hp→Prop}{u:Value}{s'':Shared}(x:Ext φ nw φ' nw')(hu:Upto s s')(h:PostE g c m φ' nw' P s' u s''):PostE g c m φ nw P s u s'':=
 let ⟨φ1,nw1,H1,v,S,x1,hv,hP,hu1⟩:=h
 ⟨φ1,nw1,H1,v,S,x.trans x1,hv,hP,hu.trans hu1⟩
theorem PostX.mono{X:Addr→Hp→Prop}{u:Value}{s'':Shared}(x:Ext φ nw φ' nw')(hu:Upto s s')(h:PostX g c m φ' nw' X s' u s''):PostX g c m φ nw X s u s'':=
 let ⟨e,C,φ1,nw1,H1,h1,S,x1,h2,h3,hu1⟩:=h
 ⟨e,C,φ1,nw1,H1,h1,S,x.trans x1,h2,h3,hu.trans hu1⟩
theorem St.tok(S:St g c m φ nw H s)(tk:Nat):St g c m φ nw H {s with toks:=tk}:=⟨S.F,S.N,S.C,S.fo,S.ho⟩
theorem St.in(S:St g c m φ nw H s)(fx:Fx g c):g.K.In s.heap:=fx.X.keeps S.F.keep
theorem St.more(S:St g c m φ nw H s){h':Heap}{tk:Nat}(F':Fr c.b₀ c.L h' m)(N':News c.b₀ c.L h' nw')(hs:∀ p∈nw,p∈nw') :
  St g c m φ nw' H {s with heap:=h',toks:=tk}:=
 ⟨F',N',S.C.sub hs,S.fo.mono (ext_sub hs).s,S.ho.mono (ext_sub hs).s⟩
end
theorem intsOf_VRs{K:Frag}{φ:Ph}{nw:Nw}{xs:List Value}:∀{vs:List V},intsOf xs=some vs→VRs K φ nw vs xs:=by
 induction xs with
 | nil=>exact λ h=>Option.some.inj h▸rfl
 | cons v r ih=>
  refine λ h=>bind_is h λ w e h=>map_is h λ ws e' h=>h▸VRs.cons ?_ (ih e')
  rcases intK_is e with ⟨rfl,rfl⟩ | ⟨i,t,rfl,rfl⟩
  ·exact rfl
  ·exact⟨t,rfl⟩
theorem tupK_VR{K:Frag}{φ:Ph}{nw:Nw}{a:Addr}{vs:List V}(h:tupK K a=some vs):VR K φ nw (.tup vs) (.ref a):=
 Eq.mpr vr_tup ((tupK_is h).elim λ xs h=>h.elim λ n h=>h.elim λ sl h=>⟨a,xs.toList,rfl,.inr ⟨n,sl,h.1⟩,intsOf_VRs h.2⟩)
theorem valV_VR{K:Frag}{φ:Ph}{nw:Nw}{v:Value}{w:V}(h:valV K v=some w):VR K φ nw w v:=by
 refine elim_is h (λ _ h=>map_is h λ a e h=>?_) λ i e h=>?_
 ·rw [vRef_is e,←h]
  exact oC (tupK K a) (λ q=>by rw [q];exact rfl) λ vs q=>by rw [q];exact tupK_VR q
 ·exact Option.some.inj h▸vInt_is e
section
variable{g:G0}{c:Cx}{env:Env}{sc:Scope}{ρ:Lo}{m:PySem.Str→Option Value}{φ:Ph}{nw:Nw}{H:Hp}{s:Shared}
theorem nameV_sound{x:PySem.Str}{pos:Pos}{P:V→Hp→Prop}{X X':Addr→Hp→Prop}{A:Around}{E:Value→Shared→Prop}(fx:Fx g c)(S:St g c m φ nw H s)(O:EnvOk g c env sc ρ m φ nw)
  (h:Run (nameV g.K sc ρ x H) P X):wpAny (model g.prog g.w) A (eval (.Name x pos) env) (PostE g c m φ nw P s) E s:=by
 refine byC λ nG=>?_
 obtain⟨hx,h⟩:=rNo h
 rw [Bool.or_eq_true,not_or,Bool.not_eq_true,Bool.not_eq_true] at hx
 obtain⟨hdb,hcd⟩:=hx
 obtain⟨kd,hk,h⟩:=onSome_is h
 refine nG ?_
 have ceL:∀{v:V},(sc.names.lookup x=some .cell∨sc.names.lookup x=some .free)→lk x ρ=some v→P v H→
   wpAny (model g.prog g.w) A (eval (.Name x pos) env) (PostE g c m φ nw P s) E s:=λ{v} hk e hP=>by
  refine byC λ nG=>?_
  obtain⟨cc,o,u,h1,h2,h3,h4,h5⟩:=O.cel x _ hk e
  refine nG ?_
  have hc:s.heap.IsCell cc (some u):=⟨o,(S.N _ h2).1,h4⟩
  refine wpAny_Name ?_ hdb
  rcases O.scc x hk with q | q
  ·exact wpAny_loadName_cell O.kind q h1 hc (.of S (.refl _ _) h5 hP (.refl _))
  ·exact wpAny_loadName_free O.kind q h1 hc (.of S (.refl _ _) h5 hP (.refl _)) hcd
 cases kd with
 | «local»=>
  obtain⟨v,e,hP⟩:=run_ofO h
  refine wpAny_Name ?_ hdb
  rcases O.loc with ⟨h1,h2⟩ | ⟨o,m₂,h1,h2,⟨es,ep,h3,h3b,h3c⟩,h4⟩
  ·exact(h2 x v hk e).elim λ u q=>wpAny_loadName_local O.kind (O.scl x hk) (h1▸S.F.ns) q.1 (.of S (.refl _ _) q.2 hP (.refl _))
  ·exact(h4 x v hk e).elim λ u q=>wpAny_loadName_local O.kind (O.scl x hk) ⟨o,es,ep,(S.N _ h1).1,h3,h3b,h3c⟩ q.1 (.of S (.refl _ _) q.2 hP (.refl _))
 | cell=>exact(run_ofO h).elim λ v e hP=>ceL (.inl hk) e hP
 | free=>exact(run_ofO h).elim λ v e hP=>ceL (.inr hk) e hP
 | globalImplicit=>
  refine byC λ nG=>?_
  obtain⟨v,e,hP⟩:=run_ofO h
  obtain⟨o,e1,e2⟩:=Option.bind_eq_some_iff.mp e
  refine nG ?_
  have hg:s.heap.Ns env.globals g.mg:=by rw [O.glob];exact fx.T.g.keeps S.F.keep
  refine elim_is e2 (λ e3 e2=>?_) λ u e3 e2=>?_
  rotate_left
  ·subst e3
   exact Calls.Name_function_global O.kind (O.scg x hk) (Calls.loadGlobal_global hg (mg_of fx.X fx.T.g e1) (.of S (.refl _ _) (valV_VR e2) hP (.refl _))) hdb
  ·subst e3
   refine map_is (iteN e2).2 λ u e4 e5=>?_
   subst e5
   have hn':x≠("__name__" : PySem.Str):=λ q=>absurd (beq_iff_eq.mpr q) (ne_true_of_eq_false (iteN e2).1)
   exact Calls.Name_function_global O.kind (O.scg x hk) (Calls.loadGlobal_builtin hg (mg_none_of fx.X fx.T.g e1) (by rw [O.bi];exact fx.T.b.keeps S.F.keep) ((fx.T.builtins x hn').trans e4) (.of S (.refl _ _) (show VR g.K φ nw (.sta u) u from rfl) hP (.refl _))) hdb
 | _=>exact h.elim
end
end VS.Internal
end
section
open PySem PySem.W PyProof.Rows PySem.SeqAt
set_option backward.match.sparseCases false
namespace VS.Internal
theorem sizeL:(sizeLine:Nat)=16777216:=sizeLine_eq
theorem bits_le{k:Int}(h:k.natAbs<2^63):Builtin.Int.intBits k≤64:=
 have h':(k.natAbs:Int)<2^63:=Int.ofNat_lt.mpr h
 intBits_le_64 (Int.lt_of_lt_of_le (Int.neg_lt_neg (Int.lt_trans h' (by decide))) (Int.neg_le_of_neg_le (Int.natAbs_neg k▸Int.le_natAbs))) (Int.lt_of_le_of_lt Int.le_natAbs (Int.lt_trans h' (by decide)))
section
variable{g:G0}{c:Cx}{m:PySem.Str→Option Value}{φ:Ph}{nw:Nw}{H:Hp}{s:Shared}{P:V→Hp→Prop}{X:Addr→Hp→Prop}{A:Around}{E:Value→Shared→Prop}
theorem PostE.here{v:V}{u:Value}(S:St g c m φ nw H s)(hv:VR g.K φ nw v u)(hP:P v H)(tk:Nat):PostE g c m φ nw P s u {s with toks:=tk}:=
 .of (S.tok tk) (.refl _ _) hv hP ⟨s.heap,tk,rfl⟩
theorem PostE.now{v:V}{u:Value}(S:St g c m φ nw H s)(hv:VR g.K φ nw v u)(hP:P v H):PostE g c m φ nw P s u s:=
 .of S (.refl _ _) hv hP (.refl _)
theorem PostE.add{v:V}{a:Addr}{o:Obj}{h':Heap}{tk:Nat}(S:St g c m φ nw H s)(F':Fr c.b₀ c.L h' m)(N':News c.b₀ c.L h' ((a,o)::nw))(hv:VR g.K φ ((a,o)::nw) v (.ref a))(hP:P v H) :
  PostE g c m φ nw P s (.ref a) {s with heap:=h',toks:=tk}:=
 .of (S.more F' N' λ _ h=>.tail _ h) (ext_sub λ _ h=>.tail _ h) hv hP ⟨h',tk,rfl⟩
theorem not_mut(S:St g c m φ nw H s){a:Addr}(h:∀ p∈nw,p.1≠a):a∉mutA φ:=λ q=>let ⟨_,k⟩:=S.C.owned q;h _ k rfl
theorem fresh_size(S:St g c m φ nw H s):∀ p∈nw,p.1≠s.heap.objs.size:=λ p hp=>Nat.ne_of_lt (Heap.lt_size (S.N p hp).1)
theorem VRs.mono1{K:Frag}{nw':Nw}{vs:List V}{xs:List Value}(h:VRs K φ nw vs xs)(hs:∀ p∈nw,p∈nw'):VRs K φ nw' vs xs:=VRs.mono (ext_sub hs).s _ _ h
theorem tup_new{vs:List V}{xs:List Value}{a:Addr}{n:Nat}{nw':Nw}(ha:a∉mutA φ)(hm:(a,({cls:=.type "tuple",data:=.seq xs.toArray n}:Obj))∈nw') (h:VRs g.K φ nw' vs xs):VR g.K φ nw' (.tup vs) (.ref a):=Eq.mpr vr_tup ⟨a,xs,rfl,.inl ⟨_,n,hm,ha,rfl,rfl⟩,h⟩
inductive TU(K:Frag)(φ:Ph)(nw:Nw)(h:Heap)(vs:List V)(u:Value):Prop
 | mk (a:Addr) (xs:List Value) (e:u = .ref a) (t:IsTup h a xs.toArray) (r:VRs K φ nw vs xs)
theorem tup_is{vs:List V}{u:Value}(fx:Fx g c)(S:St g c m φ nw H s)(h:VR g.K φ nw (.tup vs) u):TU g.K φ nw s.heap vs u:=
 (Eq.mp vr_tup h).elim λ a h=>h.elim λ xs h=>⟨a,xs,h.1,h.2.1.elim (λ k=>k.elim λ o k=>k.elim λ n k=>⟨o,(S.N _ k.1).1,k.2.2.1,n,k.2.2.2⟩) λ k=>k.elim λ n k=>k.elim λ sl k=>⟨_,(S.in fx) _ _ k,rfl,n,rfl⟩,h.2.2⟩
inductive LI(K:Frag)(φ:Ph)(nw:Nw)(h:Heap)(i:Nat)(vs:List V)(u:Value):Prop
 | mk (a:Addr) (xs:List Value) (o:Obj) (e:u = .ref a) (f:φ[i]? = some (a,a)) (m:(a,o)∈nw) (l:h.IsList a xs.toArray) (r:VRs K φ nw vs xs)
theorem list_is{i:Nat}{vs:List V}{u:Value}(S:St g c m φ nw H s)(h:VR g.K φ nw (.ref i) u)(hi:H[i]? = some (.list vs)):LI g.K φ nw s.heap i vs u:=by
 refine byC λ nG=>?_
 obtain⟨a,d,h1,rfl⟩:=h
 obtain⟨rfl,o,xs,n,h2,h2b,h2c,h3,_⟩:=S.C.ob i a d _ h1 hi
 exact nG ⟨a,xs,o,rfl,h1,h2,⟨_,(S.N _ h2).1,h2b,n,h2c⟩,h3⟩
theorem dict_mapSeq(o:Obj)(f:Array Value→Array Value):(o.mapSeq f).dict=o.dict:=by
 obtain⟨c,d,dt,sl⟩:=o;cases dt<;>rfl
theorem setItem_upd{prog:Program}{w:World}{l:Addr}{o:Obj}{items:Array Value}{ne:Nat}{k:Int}{t:Tok}{v:Value}{Q:Unit→Shared→Prop}(ho:s.heap.get? l=some o)(hc:o.cls = .type "list") (hd:o.data = .seq items ne)
  (h0:0≤k) (hfit:k<2^63) (hn:k<items.size)
  (hQ:Q () {s with heap:=s.heap.update l (Obj.mapSeq (·.setIfInBounds k.toNat v))}) :
  wpAny (model prog w) A (setItem (.ref l) (.int k t) v) Q E s:=by
 have hl:s.heap.IsList l items:=⟨o,ho,hc,ne,hd⟩
 unfold setItem
 try with_reducible refine wpAny_holding ?_
 first | refine wpAny_bind (wpAny_pure ?_) | skip
 refine wpAny_bind (wpAny_sequenceKey hl.typeIs (by decide) ?_)
 refine wpAny_bind (wpAny_callSpecial?_slot (name:=Str.ofString "__setitem__") hl.typeIs slot_list_setitem
  (wpAny_call_entry slot_list_setitem hl.typeIs entry_list_setitem ?_ (args_list_setitem _ _ _)))
 show wpAny _ _ (Builtin.List.listSubscript? (.int k t) >>= _) _ _ s
 refine wpAny_bind (wpAny_listSubscript_int (fitsIndex_of h0 hfit) ?_)
 clear hfit
 obtain⟨j,rfl⟩:=Int.eq_ofNat_of_zero_le h0
 have hj:j<items.size:=by lia
 have hx':items[j]? = some items[j]:=Array.getElem?_eq_getElem hj
 refine wpAny_bind (wpAny_bind (wpAny_seqItemAt ho hd (wpAny_pure ?_)))
 rw [hx']
 show wpAny _ _ (setSeqItemAt l j v >>= _) _ _ s
 refine wpAny_bind (wpAny_setSeqItemAt ho hd ?_)
 first
  | exact wpAny_bind (wpAny_pure (wpAny_pure ⟨.none,rfl,wpAny_pure hQ⟩))
  | exact wpAny_pure ⟨.none,rfl,wpAny_pure hQ⟩
theorem list_set{i:Nat}{vs ws:List V}{u:Value}{f:Array Value→Array Value}{tk:Nat}(S:St g c m φ nw H s)(h:VR g.K φ nw (.ref i) u)(hi:H[i]? = some (.list vs)) :
  ∃ a o xs n,u = .ref a∧s.heap.get? a=some o∧o.cls = .type "list"∧o.data = .seq xs.toArray n∧VRs g.K φ nw vs xs∧(φ[0]? = some (a,a)→i=0)∧(o.dict=none∨i=0)∧
  ∀ ys:List Value,f xs.toArray=ys.toArray→VRs g.K φ nw ws ys→∃ nw',St g c m φ nw' (H.set i (.list ws)) {s with heap:=s.heap.update a (Obj.mapSeq f),toks:=tk}∧Ext φ nw φ nw':=by
 refine byC λ nG=>?_
 obtain⟨a,d,h1,rfl⟩:=h
 obtain⟨rfl,o,xs,n,hm,hc,hd,hx,hdict⟩:=S.C.ob i a d _ h1 hi
 refine nG ?_
 have hmu:=mutA_of h1
 have D:=S.N _ hm
 have h00:φ[0]? = some (a,a)→i=0:=λ q=>mutA_inj S.C.nd h1 q
 refine⟨a,o,xs,n,rfl,D.1,hc,hd,hx,h00,hdict.imp id h00,λ ys hf hy=>?_⟩
 obtain⟨n',hd'⟩:=Obj.data_mapSeq hd f
 rw [hf] at hd'
 have hol:(s.heap.update a (Obj.mapSeq f)).get? a=some (o.mapSeq f):=Heap.get?_update_self _ D.1 (Obj.isFreed_of_seq hd')
 have x:Ext φ nw φ (nset nw a (o.mapSeq f)):=ext_nset hmu
 have x':=x.s
 have hs:Heap.SameBut a s.heap (s.heap.update a (Obj.mapSeq f)):=Heap.SameBut.update ..
 refine⟨nset nw a (o.mapSeq f),⟨S.F.change hs D.2.1 D.2.2,λ p hp=>?_,S.C.set h1 (o:=.list ws) ⟨rfl,o.mapSeq f,ys,n',mem_nset_self,(Obj.cls_mapSeq ..).trans hc,hd',VRs.mono x' _ _ hy,by rw [dict_mapSeq];exact hdict⟩,S.fo.mono x',S.ho.mono x'⟩,x⟩
 rcases List.mem_cons.mp hp with rfl | hp
 ·exact⟨hol,D.2⟩
 ·have P:=S.N _ (List.mem_filter.mp hp).1
  exact⟨(hs.2 _ (filter_ne p hp)).trans P.1,P.2⟩
theorem list_new{vs:List V}{xs:List Value}{a:Addr}{n:Nat}{h':Heap}{tk:Nat}(S:St g c m φ nw H s)(F':Fr c.b₀ c.L h' m)(N':News c.b₀ c.L h' ((a,listOf xs.toArray n)::nw))(hn:∀ p∈nw,p.1≠a)
  (hv:VRs g.K φ nw vs xs) (h:Run (alloc (.list vs) H) P X):PostE g c m φ nw P s (.ref a) {s with heap:=h',toks:=tk}:=by
 have hP:P (.ref H.length) (H++[.list vs]):=h
 have x:Ext φ nw (φ++[(a,a)]) ((a,listOf xs.toArray n)::nw):=ext_new (λ _ h=>.tail _ h) hn
 refine⟨_,_,_,_,⟨F',N',S.C.new (o:=.list vs) (λ _ h=>.tail _ h) hn ⟨rfl,_,xs,n,.head _,rfl,rfl,VRs.mono x.s _ _ hv,.inl rfl⟩,S.fo.mono x.s,S.ho.mono x.s⟩,x,?_,hP,⟨h',tk,rfl⟩⟩
 refine⟨a,a,?_,rfl⟩
 rw [←S.C.len];simp
theorem int_is{K:Frag}{i:Int}{u:Value}(h:VR K φ nw (.int i) u):∃ t,u = .int i t:=h
theorem bool_is{K:Frag}{b:Bool}{u:Value}(h:VR K φ nw (.bool b) u):u = .bool b:=h
theorem none_is{K:Frag}{u:Value}(h:VR K φ nw .none u):u = .none:=h
theorem vr_int{K:Frag}{i:Int}{t:Tok}:VR K φ nw (.int i) (.int i t):=⟨t,rfl⟩
theorem vr_bool{K:Frag}{b:Bool}:VR K φ nw (.bool b) (.bool b):=rfl
theorem vr_none{K:Frag}:VR K φ nw .none .none:=rfl
theorem vr_str{K:Frag}{x:PySem.Str}{t:Tok}:VR K φ nw (.str x) (.str x t):=⟨t,rfl⟩
theorem vr_byt{K:Frag}{x:Array UInt8}{t:Tok}:VR K φ nw (.byt x) (.bytes x t):=⟨t,rfl⟩
theorem vr_sta{K:Frag}{u:Value}:VR K φ nw (.sta u) u:=rfl
theorem pow_int'{a b:Int}{t u:Tok}{Q:Value→Shared→Prop}(h:powOk a b=true)(hQ:Q (.int (a^b.toNat) s.toks) {s with toks:=s.toks+1}) :
  wpAny (model g.prog g.w) A (binaryOp .Pow (.int a t) (.int b u)) Q E s:=by
 unfold powOk at h
 simp only [Bool.and_eq_true,decide_eq_true_eq] at h
 obtain⟨⟨h1,h2⟩,h3⟩:=h
 have hb:Builtin.Int.intBits a≤65:=by
  unfold Builtin.Int.intBits
  split
  ·exact Nat.zero_le _
  ·rename_i q
   have:a.natAbs≠0:=by simpa using q
   have:=(Nat.log2_lt this).mpr h3
   exact Nat.le_succ_of_le (by assumption)
 refine AutoIntOpsIf.pow (iteP (λ _=>iteP (λ q=>?_) λ q=>iteP (λ q'=>?_) λ _=>iteP (λ q'=>?_) λ _=>iteP (λ q'=>?_) λ _=>hQ) λ q=>absurd h1 q)
 ·have:b=0:=by simpa using q
  subst this
  rw [show(0:Int).toNat=0 from rfl,Int.pow_zero] at hQ
  exact hQ
 ·have hn:b.toNat≠0:=by
   have:b≠0:=by simpa using q
   lia
  rw [Bool.or_eq_true,beq_iff_eq,beq_iff_eq] at q'
  rcases q' with rfl | rfl
  ·rw [Int.zero_pow hn] at hQ;exact hQ
  ·rw [Int.one_pow] at hQ;exact hQ
 ·have:a = -1:=by simpa using q'
  subst this
  rw [neg_one_pow_int h1] at hQ
  exact hQ
 ·unfold Builtin.Int.intTooBig at q'
  rw [decide_eq_true_eq] at q'
  have e:((Builtin.Int.intBits a:Nat):Int)*b≤65*100:=Int.mul_le_mul (by lia) h2 h1 (by constructor<;>lia)
  have:((bitsLine:Nat):Int)=134217728:=by unfold bitsLine;rfl
  lia
inductive IA(f:Int→Int→M V)(u u':Value)(H:Hp)(P:V→Hp→Prop)(X:Addr→Hp→Prop):Prop
 | mk (i j:Int) (t t':Tok) (e:u = .int i t) (e':u' = .int j t') (h:Run (f i j H) P X)
theorem intsA_is{f:Int→Int→M V}{v v':V}{u u':Value}(hv:VR g.K φ nw v u)(hv':VR g.K φ nw v' u')(h:Run (intsA f v v' H) P X):IA f u u' H P X:=by
 refine byC λ nG=>?_
 obtain⟨i,rfl,h1⟩:=onInt_is h
 obtain⟨j,rfl,h2⟩:=onInt_is h1
 obtain⟨t,rfl⟩:=int_is hv
 obtain⟨t',rfl⟩:=int_is hv'
 exact nG ⟨i,j,t,t',rfl,rfl,h2⟩
theorem run_ite3{c:Prop}[Decidable c]{m n:M V}{G:Prop}(h:Run ((if c then m else n) H) P X)(h1:c→Run (m H) P X→G)(h2:¬ c→Run (n H) P X→G):G:=by
 by_cases hc:c
 ·rw [if_pos hc] at h;exact h1 hc h
 ·rw [if_neg hc] at h;exact h2 hc h
theorem addA_sound{v v':V}{u u':Value}(fx:Fx g c)(S:St g c m φ nw H s)(hv:VR g.K φ nw v u)(hv':VR g.K φ nw v' u')(h:Run (addA v v' H) P X) :
  wpAny (model g.prog g.w) A (binaryOp .Add u u') (PostE g c m φ nw P s) E s:=by
 have hii:Run (intsA (λ i j=>M.pure (.int (i+j))) v v' H) P X→wpAny (model g.prog g.w) A (binaryOp .Add u u') (PostE g c m φ nw P s) E s:=λ h=>by
  obtain⟨i,j,t,t',rfl,rfl,h⟩:=intsA_is hv hv' h
  exact add_int (PostE.here S vr_int h _)
 cases v with
 | tup ws=>
   refine byC λ nG=>?_
   obtain⟨ws',rfl,h1⟩:=unT_is h
   obtain⟨a,xs,rfl,ht,hx⟩:=tup_is fx S hv
   obtain⟨a',xs',rfl,ht',hx'⟩:=tup_is fx S hv'
   obtain⟨hz,hP⟩:=rIf h1
   refine nG ?_
   have e1:=hx.length
   have e2:=hx'.length
   have q:∀{l:List V},([]:List Value).length=l.length→l=[]:=λ{l} q=>List.eq_nil_of_length_eq_zero q.symm
   refine add_tuples S.F S.N ht ht' (λ e=>?_) (λ _ e=>?_) (λ _ _ h' F' N'=>?_) (by simp only [e1,e2,sizeL];exact Nat.le_trans (by assumption) (by decide))
   ·subst e
    rw [q e1] at hP
    exact PostE.now S hv' hP
   ·subst e
    rw [q e2] at hP
    have hP:P (.tup (ws++[])) H:=hP
    rw [List.append_nil] at hP
    exact PostE.now S hv hP
   ·exact PostE.add S F' N' (tup_new (not_mut S (fresh_size S)) (.head _) ((hx.append hx').mono1 λ _ h=>.tail _ h)) hP
 | ref i=>
   refine byC λ nG=>?_
   obtain⟨j,rfl,h1⟩:=onRef_is h
   obtain⟨o,ho,h2⟩:=run_getO (i:=i) h1
   obtain⟨xs,rfl,h3⟩:=onL_is h2
   obtain⟨o',ho',h4⟩:=run_getO (i:=j) h3
   obtain⟨ys,rfl,h5⟩:=onL_is h4
   obtain⟨hz,h6⟩:=rIf h5
   obtain⟨a,us,n,rfl,_,_,hl,hx⟩:=list_is S hv ho
   obtain⟨a',us',n',rfl,_,_,hl',hx'⟩:=list_is S hv' ho'
   refine nG ?_
   refine add_arrays S.F S.N hl hl' (λ h' F' N'=>?_) (by simp only [List.size_toArray];simp only [hx.length,hx'.length,sizeL];exact Nat.le_trans (by assumption) (by decide))
   exact list_new (tk:=s.toks) S F' N' (fresh_size S) (hx.append hx') h6
 | int=>exact hii h
 | _=>exact h.elim
theorem binV_sound{op:Operator}{v v':V}{u u':Value}(fx:Fx g c)(S:St g c m φ nw H s)(hv:VR g.K φ nw v u)(hv':VR g.K φ nw v' u')(h:Run (binV op v v' H) P X) :
  wpAny (model g.prog g.w) A (binaryOp op u u') (PostE g c m φ nw P s) E s:=by
 cases op with
 | Add=>exact addA_sound fx S hv hv' h
 | Sub=>
  obtain⟨i,j,t,t',rfl,rfl,h⟩:=intsA_is hv hv' h
  exact sub_int (PostE.here S vr_int h _)
 | Mult=>
  obtain⟨i,j,t,t',rfl,rfl,h⟩:=intsA_is hv hv' h
  refine run_ite3 h (λ hm h=>?_) λ _ h=>h.elim
  unfold mulOk at hm
  simp only [Bool.or_eq_true,decide_eq_true_eq] at hm
  exact mul_int (PostE.here S vr_int h _) (hm.elim (λ q=>IntMulOk.of_left (bits_le q)) λ q=>IntMulOk.of_right (bits_le q))
 | FloorDiv=>
  obtain⟨i,j,t,t',rfl,rfl,h⟩:=intsA_is hv hv' h
  refine run_ite3 h (λ hm h=>?_) λ _ h=>h.elim
  unfold divOk at hm
  simp only [Bool.and_eq_true,decide_eq_true_eq] at hm
  refine floordiv_int hm.1 (PostE.here S vr_int h _) (Or.inl (PyProof.noPylong_of_log2 ?_))
  have h1:j.natAbs≠0:=Int.natAbs_ne_zero.mpr hm.1
  have:=(Nat.log2_lt h1).mpr hm.2
  exact Nat.le_trans (by assumption) (by decide)
 | Mod=>
  obtain⟨i,j,t,t',rfl,rfl,h⟩:=intsA_is hv hv' h
  exact run_ite3 h (λ _ h=>h.elim) λ hm h=>mod_int hm (PostE.here S vr_int h _)
 | Pow=>
  obtain⟨i,j,t,t',rfl,rfl,h⟩:=intsA_is hv hv' h
  exact run_ite3 h (λ hm h=>pow_int' hm (PostE.here S vr_int h _)) λ _ h=>h.elim
 | _=>exact h.elim
theorem unV_sound{op:UnaryOp}{v:V}{u:Value}(S:St g c m φ nw H s)(hv:VR g.K φ nw v u)(h:Run (unV op v H) P X) :
  wpAny (model g.prog g.w) A (unaryOp op u) (PostE g c m φ nw P s) E s:=by
 cases op with
 | USub=>
  refine byC λ nG=>?_
  obtain⟨i,rfl,h1⟩:=onInt_is h
  obtain⟨t,rfl⟩:=int_is hv
  exact nG (neg_int (PostE.here S vr_int h1 _))
 | Not=>
  refine byC λ nG=>?_
  obtain⟨b,rfl,h1⟩:=onBool_is h
  cases bool_is hv
  exact nG (not_of (wpAny_truthy_bool (PostE.now S vr_bool h1)))
 | _=>exact h.elim
end
end VS.Internal
end
section
open PySem PySem.W PyProof.Rows PySem.SeqAt
set_option backward.match.sparseCases false
namespace VS.Internal
section
variable{g:G0}{c:Cx}{m:PySem.Str→Option Value}{φ:Ph}{nw:Nw}{H:Hp}{s:Shared}{A:Around}{E:Value→Shared→Prop}
theorem toPy_tup{vs:List V}:toPy (.tup vs)=(toPys vs).map .tuple:=rfl
theorem toPys_cons{v:V}{vs:List V}:toPys (v::vs)=(toPy v).bind λ d=>(toPys vs).map (d :: ·):=rfl
theorem toPy_reads(fx:Fx g c)(S:St g c m φ nw H s)(v:V):∀(u:Value) (d:PyData),VR g.K φ nw v u→toPy v=some d→∃ as,Reads s.heap u d as:=
 V.rec (motive_1:=λ v=>∀(u:Value) (d:PyData),VR g.K φ nw v u→toPy v=some d→∃ as,Reads s.heap u d as) (motive_2:=λ vs=>∀(us:List Value) (ds:List PyData),VRs g.K φ nw vs us→toPys vs=some ds→∃ as,ReadsAll s.heap us ds as)
  (λ u d h e=>by cases e;rw [none_is h];exact⟨_,.none⟩)
  (λ b u d h e=>by cases e;rw [bool_is h];exact⟨_,.bool b⟩)
  (λ i u d h e=>by cases e;obtain⟨t,rfl⟩:=int_is h;exact⟨_,.int i t⟩)
  (λ _ _ _ _ e=>no_some e) (λ _ _ _ _ e=>no_some e)
  (λ vs ih u d h e=>by
   refine byC λ nG=>?_
   obtain⟨ds,e1,rfl⟩:=Option.map_eq_some_iff.mp (toPy_tup▸e)
   obtain⟨a,xs,rfl,⟨o,ho,hc,n,hd⟩,hx⟩:=tup_is fx S h
   obtain⟨as,hr⟩:=ih xs ds hx e1
   exact nG ⟨as,.tuple ho hc hd hr⟩)
  (λ _ _ _ _ e=>no_some e) (λ _ _ _ _ e=>no_some e) (λ _ _ _ _ e=>no_some e)
  (λ us ds h e=>by cases e;cases (h:us=[]);exact⟨_,.nil⟩)
  (λ v vs ih1 ih2 us ds h e=>by
   refine byC λ nG=>?_
   obtain⟨u,r,rfl,h1,h2⟩:=L2.inv h
   obtain⟨d,e1,e⟩:=Option.bind_eq_some_iff.mp (toPys_cons▸e)
   obtain⟨es,e2,rfl⟩:=Option.map_eq_some_iff.mp e
   obtain⟨as,q1⟩:=ih1 u d h1 e1
   obtain⟨bs,q2⟩:=ih2 r es h2 e2
   exact nG ⟨_,.cons q1 q2⟩) v
theorem toPys_reads(fx:Fx g c)(S:St g c m φ nw H s){vs:List V}:∀{us:List Value}{ds:List PyData},VRs g.K φ nw vs us→toPys vs=some ds→∃ as,ReadsAll s.heap us ds as:=by
 induction vs with
 | nil=>intro us ds h e;cases e;cases (h:us=[]);exact⟨_,.nil⟩
 | cons v vs ih=>
  intro us ds h e
  refine byC λ nG=>?_
  obtain⟨u,r,rfl,h1,h2⟩:=L2.inv h
  obtain⟨d,e1,e⟩:=Option.bind_eq_some_iff.mp (toPys_cons▸e)
  obtain⟨es,e2,rfl⟩:=Option.map_eq_some_iff.mp e
  obtain⟨as,q1⟩:=toPy_reads fx S v u d h1 e1
  obtain⟨bs,q2⟩:=ih h2 e2
  exact nG ⟨_,.cons q1 q2⟩
theorem ne_list_lengthsAt{l b:Addr}{items items2:Array Value}{Q:Value→Shared→Prop}(hl:s.heap.IsList l items)(hb:s.heap.IsList b items2)(hsz:(items.size != items2.size)=true)(hu:A.units<cLine)
  (h:Q (.bool true) s):wpAny (model g.prog g.w) A (compareOp .NotEq (.ref l) (.ref b)) Q E s:=by
 refine byC λ nG=>?_
 obtain⟨⟨cls,dd,data,sl⟩,ho,hc,n,hd⟩:=id hl
 obtain⟨⟨cls2,dd2,data2,sl2⟩,ho2,hc2,n2,hd2⟩:=id hb
 refine nG ?_
 simp only at hc hd hc2 hd2
 subst hc hd hc2 hd2
 exact richCompare_meets_room (op:=.NotEq) ⟨_,ho,rfl⟩ ⟨_,ho2,rfl⟩ F.slot_list_ne F.entry_list_ne (F.args_list_ne_2 _ _) (list_ne_lengthsAt l b items items2 n n2 dd dd2 sl sl2 hsz)
  ⟨ho,ho2,show Value.bool true≠Value.notImplemented∧Q (.bool true) s from⟨(λ x=>nomatch x),h⟩⟩ hu
theorem intsV_is{K:Frag}{vs:List V}:∀{xs:List Value}{ns:List Int},VRs K φ nw vs xs→intsV vs=some ns→IntsAre xs ns:=by
 induction vs with
 | nil=>intro xs ns h e;cases e;cases (h:xs=[]);exact .nil
 | cons v vs ih=>
  intro xs ns h e
  refine byC λ nG=>?_
  obtain⟨u,r,rfl,h1,h2⟩:=L2.inv h
  obtain⟨j,e1,e⟩:=Option.bind_eq_some_iff.mp e
  obtain⟨ms,e2,rfl⟩:=Option.map_eq_some_iff.mp e
  obtain⟨t,rfl⟩:=int_is (intI_is e1▸h1)
  exact nG (.cons _ _ (ih h2 e2))
theorem reads_list{a:Addr}{xs:List Value}{d:List PyData}{as:List Addr}(hl:s.heap.IsList a xs.toArray)(hr:ReadsAll s.heap xs d as):Reads s.heap (.ref a) (.list d) (a::as):=by
 refine byC λ nG=>?_
 obtain⟨o,ho,hc,n,hd⟩:=hl
 refine nG ?_
 exact .list ho hc hd hr
noncomputable def boolP(P:Bool→Hp→Prop):V→Hp→Prop:=λ v h=>∃ b,v = .bool b∧P b h
theorem asB_run{v:V}{P:Bool→Hp→Prop}{X:Addr→Hp→Prop}(h:Run (asB v H) P X):boolP P v H:=onBool_is h
theorem eqV_sound{v v':V}{u u':Value}{P:Bool→Hp→Prop}{X:Addr→Hp→Prop}(fx:Fx g c)(hu:A.units+64<cLine)(S:St g c m φ nw H s)(hv:VR g.K φ nw v u)(hv':VR g.K φ nw v' u')
  (h:Run (eqV v v' H) P X) :
  wpAny (model g.prog g.w) A (compareOp .Eq u u') (PostE g c m φ nw (boolP P) s) E s∧
  wpAny (model g.prog g.w) A (compareOp .NotEq u u') (PostE g c m φ nw (boolP λ b h=>P (!b) h) s) E s:=by
 have k:Run (ofO (peq v v') H) P X→wpAny (model g.prog g.w) A (compareOp .Eq u u') (PostE g c m φ nw (boolP P) s) E s∧
   wpAny (model g.prog g.w) A (compareOp .NotEq u u') (PostE g c m φ nw (boolP λ b h=>P (!b) h) s) E s:=λ h=>by
  refine byC λ nG=>?_
  obtain⟨b,e,hP⟩:=run_ofO h
  rw [peq_eq] at e
  obtain⟨d,q,e⟩:=Option.bind_eq_some_iff.mp e
  obtain⟨d',q',e⟩:=Option.bind_eq_some_iff.mp e
  obtain⟨hs,e⟩:=iteO e
  cases e
  obtain⟨hs,hs'⟩:=(Bool.and_eq_true _ _).mp hs
  obtain⟨as,R1⟩:=toPy_reads fx S _ _ _ hv q
  obtain⟨as',R2⟩:=toPy_reads fx S _ _ _ hv' q'
  exact nG ⟨eq_dataH R1 R2 hs hs' hu (PostE.now S vr_bool ⟨_,rfl,hP⟩),ne_dataH R1 R2 hs hs' hu (PostE.now S vr_bool ⟨_,rfl,by simpa using hP⟩)⟩
 unfold eqV at h
 refine oC (refI v) (λ q=>by rw [q] at h;exact k h) λ i q=>?_
 refine oC (refI v') (λ q'=>by rw [q,q'] at h;exact k h) λ j q'=>?_
 rw [q,q'] at h
 cases refI_is q
 cases refI_is q'
 refine byC λ nG=>?_
 obtain⟨o,ho,h1⟩:=run_getO (i:=i) h
 obtain⟨xs,rfl,h2⟩:=onL_is h1
 obtain⟨o',ho',h3⟩:=run_getO (i:=j) h2
 obtain⟨ys,rfl,h4⟩:=onL_is h3
 obtain⟨a,us,n,rfl,_,hm,hl,hx⟩:=list_is S hv ho
 obtain⟨a',us',n',rfl,_,hm',hl',hx'⟩:=list_is S hv' ho'
 refine nG ?_
 have e1:=hx.length
 have e2:=hx'.length
 by_cases hne:xs.length=ys.length
 ·rw [if_pos hne] at h4
  refine byC λ nG=>?_
  obtain⟨b,e,hP⟩:=run_ofO h4
  obtain⟨d,q,e⟩:=Option.bind_eq_some_iff.mp e
  obtain⟨d',q',e⟩:=Option.bind_eq_some_iff.mp e
  obtain⟨hs,e⟩:=iteO e
  cases e
  obtain⟨hs,hs'⟩:=(Bool.and_eq_true _ _).mp hs
  obtain⟨as,hr⟩:=toPys_reads fx S hx q
  obtain⟨as',hr'⟩:=toPys_reads fx S hx' q'
  refine nG ?_
  have R1:Reads s.heap (.ref a) (.list d) (a::as):=reads_list hl hr
  have R2:Reads s.heap (.ref a') (.list d') (a'::as'):=reads_list hl' hr'
  exact⟨eq_dataH R1 R2 hs hs' hu (PostE.now S vr_bool ⟨_,rfl,hP⟩),ne_dataH R1 R2 hs hs' hu (PostE.now S vr_bool ⟨_,rfl,by simpa [PyData.eqv] using hP⟩)⟩
 ·rw [if_neg hne] at h4
  have hsz:(us.toArray.size != us'.toArray.size)=true:=by simp only [List.size_toArray,bne_iff_ne];lia
  exact⟨eq_list_lengthsAt hl hl' hsz (Nat.lt_of_le_of_lt (Nat.le_add_right _ 64) hu) (PostE.now S vr_bool ⟨_,rfl,h4⟩),ne_list_lengthsAt hl hl' hsz (Nat.lt_of_le_of_lt (Nat.le_add_right _ 64) hu) (PostE.now S vr_bool ⟨_,rfl,h4⟩)⟩
theorem isV_is{b:Bool}{v:V}{u:Value}{P:Bool→Hp→Prop}{X:Addr→Hp→Prop}(hv:VR g.K φ nw v u)(h:Run (isV b v H) P X):P ((u==Value.none)==b) H:=by
 have k:∀ x,(u==Value.none)=x→P (x==b) H→P ((u==Value.none)==b) H:=λ x e h=>e▸h
 revert h
 cases v with
 | none=>rw [none_is hv];exact id
 | bool b=>rw [bool_is hv];exact id
 | int i=>obtain⟨t,rfl⟩:=int_is hv;exact id
 | str x=>obtain⟨t,rfl⟩:=hv;exact id
 | byt x=>obtain⟨t,rfl⟩:=hv;exact id
 | tup vs=>exact(Eq.mp vr_tup hv).elim λ a q=>q.elim λ _ q=>k false (by rw [q.1];rfl)
 | ref i=>obtain⟨a,d,_,rfl⟩:=hv;exact id
 | sta w=>exact False.elim
 | rng n=>obtain⟨a,rfl,_⟩:=hv;exact id
theorem cmpV_sound{op:CmpOp}{v v':V}{u u':Value}{P:Bool→Hp→Prop}{X:Addr→Hp→Prop}(fx:Fx g c)(hu:A.units+64<cLine)(S:St g c m φ nw H s)(hv:VR g.K φ nw v u)(hv':VR g.K φ nw v' u')
  (h:Run (cmpV op v v' H) P X):wpAny (model g.prog g.w) A (compareOp op u u') (PostE g c m φ nw (boolP P) s) E s:=by
 have q2:∀{f:Int→Int→Bool},Run (intsC f v v' H) P X→(∀ i j t t',P (f i j) H→wpAny (model g.prog g.w) A (compareOp op (.int i t) (.int j t')) (PostE g c m φ nw (boolP P) s) E s)→wpAny (model g.prog g.w) A (compareOp op u u') (PostE g c m φ nw (boolP P) s) E s:=λ h k=>by
  refine byC λ nG=>?_
  obtain⟨i,rfl,h1⟩:=onInt_is h
  obtain⟨j,rfl,h2⟩:=onInt_is h1
  obtain⟨t,rfl⟩:=int_is hv
  obtain⟨t',rfl⟩:=int_is hv'
  exact nG (k i j t t' h2)
 have q3:∀{f:Bool→Bool},Run (onInt (λ i=>unT v' λ vs=>M.bind (ofO (intIn i vs)) λ r=>M.pure (f r)) v H) P X→
   (∀ i t a xs ns,IsTup s.heap a xs→IntsAre xs.toList ns→P (f (ns.any (· == i))) H→wpAny (model g.prog g.w) A (compareOp op (.int i t) (.ref a)) (PostE g c m φ nw (boolP P) s) E s)→wpAny (model g.prog g.w) A (compareOp op u u') (PostE g c m φ nw (boolP P) s) E s:=λ h k=>by
  refine byC λ nG=>?_
  obtain⟨i,rfl,h1⟩:=onInt_is h
  obtain⟨vs,rfl,h2⟩:=unT_is h1
  obtain⟨t,rfl⟩:=int_is hv
  obtain⟨a,xs,rfl,ht,hx⟩:=tup_is fx S hv'
  obtain⟨b,e,hP⟩:=run_ofO h2
  obtain⟨ns,e1,rfl⟩:=Option.map_eq_some_iff.mp e
  exact nG (k i t a _ ns ht (intsV_is hx e1) hP)
 cases op with
 | Eq=>exact(eqV_sound fx hu S hv hv' h).1
 | NotEq=>
  have h':Run (eqV v v' H) (λ b h=>P (!b) h) X:=h
  refine wpAny_mono (eqV_sound (E:=E) fx hu S hv hv' h').2 (λ u s' q=>?_) λ _ _ x=>x
  refine byC λ nG=>?_
  obtain⟨φ',nw',H',w,S',x,hw,⟨b,rfl,hP⟩,hup⟩:=q
  refine nG ?_
  exact⟨φ',nw',H',_,S',x,hw,⟨b,rfl,by simpa using hP⟩,hup⟩
 | Lt=>exact q2 h λ i j t t' h=>lt_int (PostE.now S vr_bool ⟨_,rfl,h⟩)
 | LtE=>exact q2 h λ i j t t' h=>le_int (PostE.now S vr_bool ⟨_,rfl,h⟩)
 | Gt=>exact q2 h λ i j t t' h=>gt_int (PostE.now S vr_bool ⟨_,rfl,h⟩)
 | GtE=>exact q2 h λ i j t t' h=>ge_int (PostE.now S vr_bool ⟨_,rfl,h⟩)
 | Is=>
  have h:=onNone_is h
  cases h.1
  rw [none_is hv']
  have q:=isV_is hv h.2
  exact is_none_gen (PostE.now S vr_bool ⟨_,rfl,by simpa using q⟩)
 | IsNot=>
  have h:=onNone_is h
  cases h.1
  rw [none_is hv']
  have q:=isV_is hv h.2
  exact isnot_none_gen (PostE.now S vr_bool ⟨_,rfl,by simpa using q⟩)
 | In=>exact q3 (f:=id) h λ i t a xs ns ht hi h=>in_tuple_ints ht hi (PostE.now S vr_bool ⟨_,rfl,h⟩)
 | NotIn=>exact q3 (f:=not) h λ i t a xs ns ht hi h=>notin_tuple_ints ht hi (PostE.now S vr_bool ⟨_,rfl,h⟩)
end
end VS.Internal
end
section
open PySem PySem.W PyProof.Rows PySem.SeqAt
set_option backward.match.sparseCases false
namespace VS.Internal
theorem okCls_is{K:Frag}{C:Addr}(h:okCls K C=true)(x:PySem.Str):plainGet K C x=true∧hasDictIn K C=true∧plainOver K C=true∧findIn K (.ref C) "__setattr__" = some (some (.builtin "object.__setattr__")):=by
 unfold okCls at h
 simp only [Bool.and_eq_true,beq_iff_eq] at h
 exact⟨h.1.1.1,h.1.1.2,h.1.2,h.2⟩
theorem int_noGet(K:Frag)(k:Int)(t:Tok):specialIn K (.int k t) "__get__" = some none:=by
 show fastLookup "int" "__get__" = some none
 decide +kernel
section
variable{g:G0}{c:Cx}{m:PySem.Str→Option Value}{φ:Ph}{nw:Nw}{H:Hp}{s:Shared}{A:Around}{E:Value→Shared→Prop}
theorem vr_handed{v:V}{u:Value}{K:Frag}(h:VR K φ nw v u)(hn:notSta v=true):handedIn u=true:=by
 cases v with
 | none=>rw [none_is h];rfl
 | bool b=>rw [bool_is h];rfl
 | int i=>exact(int_is h).elim λ t q=>q▸rfl
 | str x=>exact Exists.elim h λ t q=>q▸rfl
 | byt x=>exact Exists.elim h λ t q=>q▸rfl
 | tup vs=>exact(Eq.mp vr_tup h).elim λ a q=>q.elim λ _ q=>q.1▸rfl
 | ref i=>exact Exists.elim h λ a q=>q.elim λ _ q=>q.2▸rfl
 | sta w=>exact nomatch (show false=true from hn)
 | rng n=>exact Exists.elim h λ a q=>q.1▸rfl
inductive IN(K:Frag)(φ:Ph)(nw:Nw)(h:Heap)(i:Nat)(C:Addr)(fs:List (PySem.Str × V))(u:Value):Prop
 | mk (a d:Addr) (sl:Array (Option Value)) (es:List DictEntry) (n:Nat) (e:u = .ref a) (f:φ[i]? = some (a,d)) (na:a∉mutA φ) (k:okCls K C=true) (m:(a,(⟨.ref C,some d,.plain,sl⟩:Obj))∈nw) (md:(d,dictOf es n)∈nw) (r:FR K φ nw fs es)
  (t:InstAt h a ⟨.ref C,some d,.plain,sl⟩ C (some (dictOf es n)))
theorem inst_is{i:Nat}{C:Addr}{fs:List (PySem.Str × V)}{u:Value}(S:St g c m φ nw H s)(h:VR g.K φ nw (.ref i) u)(hi:H[i]? = some (.inst C fs)):IN g.K φ nw s.heap i C fs u:=by
 refine byC λ nG=>?_
 obtain⟨a,d,h1,rfl⟩:=h
 obtain⟨k1,k2,⟨o,k3,k4,k5,k6⟩,es,n,k7,k8⟩:=S.C.ob i a d _ h1 hi
 have k3:=obj_eq k4 k5 k6▸k3
 exact nG ⟨a,d,o.slots,es,n,rfl,h1,k1,k2,k3,k7,k8,InstAt.of_news S.N k3 k7⟩
theorem getA_sound{v:V}{u:Value}{x:PySem.Str}{ex:Bool}{P:V→Hp→Prop}{X:Addr→Hp→Prop}(fx:Fx g c)(S:St g c m φ nw H s)(hv:VR g.K φ nw v u)(h:Run (getA g.K v x H) P X) :
  wpAny (model g.prog g.w) A (getAttr u x ex) (PostE g c m φ nw P s) E s:=by
 refine byC λ nG=>?_
 obtain⟨i,rfl,hA⟩:=onRef_is h
 clear h
 obtain⟨o,ho,hB⟩:=run_getO (i:=i) hA
 clear hA
 obtain⟨C,fs,rfl,h⟩:=onInst_is hB
 clear hB
 obtain⟨a,d,sl,es,n,rfl,h1,h2,h3,h4,h5,h6,I⟩:=inst_is S hv ho
 obtain⟨g1,g2,g3,g4⟩:=okCls_is h3 x
 obtain⟨r,e1,h⟩:=onSome_is h
 cases r with
 | none=>
  obtain⟨w,e2,h⟩:=onSome_is h
  obtain⟨hn,h⟩:=rIf h
  obtain⟨w',e3,e4⟩:=h6.getL_some e2
  exact nG (get_own S.F fx.X I g1 g2 e1 rfl e3 (vr_handed e4 hn) (PostE.here S e4 h _))
 | some a'=>
  obtain⟨k,e,h⟩:=onSome_is h
  obtain⟨t,rfl⟩:=vInt_is e
  obtain⟨hc,h⟩:=rNo h
  rw [Bool.or_eq_true,not_or,Bool.not_eq_true,Bool.not_eq_true] at hc
  exact nG (get_cls S.F fx.X I g1 g2 e1 (int_noGet _ _ _) rfl hc.2 (h6.getL_none (Option.not_isSome_iff_eq_none.mp (ne_true_of_eq_false hc.1))) (PostE.here S vr_int h _))
inductive unitP(P:Unit→Hp→Prop)(g:G0)(c:Cx)(m:PySem.Str→Option Value)(φ:Ph)(nw:Nw)(s:Shared)(u:Unit)(s':Shared):Prop
 | mk (φ':Ph) (nw':Nw) (H':Hp) (S:St g c m φ' nw' H' s') (x:Ext φ nw φ' nw') (p:P () H') (k:Upto s s')
theorem setA_sound{v w:V}{u u':Value}{x:PySem.Str}{P:Unit→Hp→Prop}{X:Addr→Hp→Prop}(fx:Fx g c)(S:St g c m φ nw H s)(hv:VR g.K φ nw v u)(hw:VR g.K φ nw w u')(h:Run (setA g.K v x w H) P X) :
  wpAny (model g.prog g.w) A (setAttr u x u') (unitP P g c m φ nw s) E s:=by
 refine byC λ nG=>?_
 obtain⟨i,rfl,hA⟩:=onRef_is h
 clear h
 obtain⟨o,ho,hB⟩:=run_getO (i:=i) hA
 clear hA
 obtain⟨C,fs,rfl,h⟩:=onInst_is hB
 clear hB
 obtain⟨a,d,sl,es,n,rfl,h1,h2,h3,h4,h5,h6,I⟩:=inst_is S hv ho
 obtain⟨g1,g2,g3,g4⟩:=okCls_is h3 x
 obtain⟨r,e1,h⟩:=onSome_is h
 obtain⟨hz,h⟩:=rIf h
 refine nG ?_
 obtain⟨hz1,hz⟩:=(Bool.and_eq_true _ _).mp hz
 rw [Option.isNone_iff_eq_none.mp hz1] at e1
 replace hz:=of_decide_eq_true hz
 have hP:P () (H.set i (.inst C (put x w fs))):=h
 have ht:takerIn g.K C x=some none:=by unfold takerIn;rw [e1];rfl
 have hFR:FR g.K φ (nset nw d (dictOf (putL x (PyData.keyHash g.w.params x) (.str x (s.toks+1)) u' es) (putN x es n))) (put x w fs) (putL x (PyData.keyHash g.w.params x) (.str x (s.toks+1)) u' es):=
  (FR.mono (ext_nset (mutA_of h1)).s _ _ h6).put (VR.mono (ext_nset (mutA_of h1)).s _ _ hw)
 have hlen:=hFR.length
 have hput:=put_length x w fs
 have hda:d≠a:=λ q=>h2 (q▸mutA_of h1)
 refine set_dict S.F fx.X (news_split S.N h5) I rfl g4 g3 ht g2 h6.getL_isSome rfl upd_nset (by lia) (λ h' F' N'=>?_)
 refine⟨φ,_,_,⟨F',N',S.C.set h1 (o:=.inst C (put x w fs)) ⟨h2,h3,⟨_,mem_nset h4 (Ne.symm hda),rfl,rfl,rfl⟩,_,_,mem_nset_self,hFR⟩,S.fo.mono (ext_nset (mutA_of h1)).s,S.ho.mono (ext_nset (mutA_of h1)).s⟩,ext_nset (mutA_of h1),hP,⟨h',_,rfl⟩⟩
theorem idx_seq{k:Int}{n j:Nat}(h:idx k n=some j)(hn:n≤1000):seqIndex? k n=some j∧-(2^63)≤k∧k<2^63∧j<n∧(0≤k→j=k.toNat)∧(k<0→j=(k+n).toNat∧-(n:Int)≤k):=by
 have key:∀ i:Int,(0≤i∧i<n)→(if(decide (0≤i)&&decide (i<(n:Int)))=true then some i.toNat else none)=some i.toNat:=λ i hi=>if_pos (by simp;exact hi)
 unfold idx at h
 unfold seqIndex?
 by_cases h1:0≤k
 ·rw [if_pos h1] at h
  by_cases h2:k<n
  ·rw [if_pos h2] at h
   cases h
   refine⟨?_,Int.le_trans (by decide) h1,Int.lt_of_lt_of_le h2 (Int.le_trans (Int.ofNat_le.mpr hn) (by decide)),(Int.toNat_lt h1).mpr h2,λ _=>rfl,λ q=>(Int.not_lt.mpr h1 q).elim⟩
   rw [if_neg (Int.not_lt.mpr h1)]
   exact key k ⟨h1,h2⟩
  ·rw [if_neg h2] at h;exact no_some h
 ·rw [if_neg h1] at h
  by_cases h2:-(n:Int)≤k
  ·rw [if_pos h2] at h
   cases h
   have h3:0≤k+n:=Int.le_trans (Int.le_of_eq (Int.add_left_neg (n:Int)).symm) (Int.add_le_add_right h2 n)
   have h4:k+n<n:=Int.lt_of_lt_of_le (Int.add_lt_add_right (Int.not_le.mp h1) n) (Int.le_of_eq (Int.zero_add n))
   refine⟨?_,Int.le_trans (Int.neg_le_neg (Int.le_trans (Int.ofNat_le.mpr hn) (by decide))) h2,Int.lt_trans (Int.not_le.mp h1) (by decide),(Int.toNat_lt h3).mpr h4,λ q=>absurd q h1,λ _=>⟨rfl,h2⟩⟩
   rw [if_pos (Int.not_le.mp h1)]
   exact key (k+n) ⟨h3,h4⟩
  ·rw [if_neg h2] at h;exact no_some h
inductive IT(k:Int)(us:List Value)(R:V→Value→Prop)(Q:V→Prop):Prop
 | mk (j:Nat) (u:Value) (r:V) (q1:seqIndex? k us.length=some j) (q2:-(2^63)≤k) (q3:k<2^63) (q5:0≤k→j=k.toNat) (q6:k<0→j=(k+us.length).toNat∧-(us.length:Int)≤k) (e2:us[j]? = some u) (e3:R r u) (p:Q r)
theorem itemI_is{K:Frag}{k:Int}{xs:List V}{us:List Value}{P:V→Hp→Prop}{X:Addr→Hp→Prop}(hx:VRs K φ nw xs us)(h:Run (itemI k xs H) P X):IT k us (VR K φ nw) (P · H):=by
 refine byC λ nG=>?_
 obtain⟨hz,h⟩:=rIf h
 obtain⟨j,e,h⟩:=onSome_is h
 obtain⟨r,e1,hP⟩:=run_ofO (o:=xs[j]?) h
 obtain⟨q1,q2,q3,q4,q5,q6⟩:=idx_seq e hz
 obtain⟨u,e2,e3⟩:=hx.get e1
 rw [←hx.length] at q1 q6
 exact nG ⟨j,u,r,q1,q2,q3,q5,q6,e2,e3,hP⟩
inductive GI(g:G0)(A:Around)(E:Value→Shared→Prop)(s:Shared)(u u':Value)(Q:Value→Shared→Prop):Prop
 | mk (T id:String) (t:s.TypeIs u T) (l:typeLookup (.type T) "__getitem__" = pure (some (.builtin id))) (k:Int) (tk:Tok) (e:u' = .int k tk) (w:wpAny (model g.prog g.w) A (getItem u u') Q E s)
theorem GI.w{g:G0}{A:Around}{E:Value→Shared→Prop}{s:Shared}{u u':Value}{Q:Value→Shared→Prop}(h:GI g A E s u u' Q):wpAny (model g.prog g.w) A (getItem u u') Q E s:=by
 cases h with | mk _ _ _ _ _ _ _ w=>exact w
theorem getI_item{v w:V}{u u':Value}{P:V→Hp→Prop}{X:Addr→Hp→Prop}(fx:Fx g c)(S:St g c m φ nw H s)(hv:VR g.K φ nw v u)(hw:VR g.K φ nw w u')(h:Run (getI v w H) P X) :
  GI g A E s u u' (PostE g c m φ nw P s):=by
 refine byC λ nG=>?_
 obtain⟨k,rfl,h1⟩:=onInt_is h
 clear h
 obtain⟨t,rfl⟩:=int_is hw
 cases v with
 | tup xs=>
  obtain⟨a,us,rfl,ht,hx⟩:=tup_is fx S hv
  obtain⟨j,u,r,q1,q2,q3,_,_,e2,e3,hP⟩:=itemI_is hx h1
  exact nG ⟨_,_,ht.typeIs,slot_tuple_getitem.lookup,_,_,rfl,getItem_tuple ht q2 q3 (by rw [List.size_toArray];exact q1) (by simpa using e2) (PostE.now S e3 hP)⟩
 | ref i=>
  obtain⟨o,ho,h2⟩:=run_getO (i:=i) h1
  obtain⟨xs,rfl,h3⟩:=onL_is h2
  obtain⟨a,us,n,rfl,_,_,hl,hx⟩:=list_is S hv ho
  obtain⟨j,u,r,q1,q2,q3,q5,q6,e2,e3,hP⟩:=itemI_is hx h3
  refine nG ⟨_,_,hl.typeIs,slot_list_getitem.lookup,_,_,rfl,?_⟩
  rcases Int.lt_or_le k 0 with hk | hk
  ·refine wpAny_getItem_list_neg hl hk (by rw [List.size_toArray];exact(q6 hk).2) q2 ?_ (PostE.now S e3 hP)
   rw [List.size_toArray,←(q6 hk).1]
   simpa using e2
  ·refine wpAny_getItem_list hl hk q3 ?_ (PostE.now S e3 hP)
   rw [←q5 hk]
   simpa using e2
 | _=>exact h1.elim
theorem setI_sound{v w y:V}{u u' u'':Value}{P:Unit→Hp→Prop}{X:Addr→Hp→Prop}(S:St g c m φ nw H s)(hv:VR g.K φ nw v u)(hw:VR g.K φ nw w u')(hy:VR g.K φ nw y u'')(h:Run (setI v w y H) P X) :
  wpAny (model g.prog g.w) A (setItem u u' u'') (unitP P g c m φ nw s) E s:=by
 refine byC λ nG=>?_
 obtain⟨k,rfl,hA⟩:=onInt_is h
 clear h
 obtain⟨i,rfl,h⟩:=onRef_is hA
 clear hA
 obtain⟨t,rfl⟩:=int_is hw
 obtain⟨o,ho,hB⟩:=run_getO (i:=i) h
 clear h
 obtain⟨xs,rfl,h⟩:=onL_is hB
 clear hB
 obtain⟨⟨z1,z2,z3⟩,h⟩:=rIf h
 obtain⟨a,o,us,n,rfl,hg,hc,hd,hx,_,_,hset⟩:=list_set (ws:=xs.set k.toNat y) (f:=(·.setIfInBounds k.toNat u'')) (tk:=s.toks) S hv ho
 refine nG ?_
 have hP:P () (H.set i (.list (xs.set k.toNat y))):=h
 have hlen:=hx.length
 refine setItem_upd hg hc hd z1 (by lia) (by simp only [List.size_toArray,hlen];exact z2) ?_
 obtain⟨nw',S',x⟩:=hset (us.set k.toNat u'') (by simp) (hx.set _ hy)
 exact⟨φ,nw',_,S',x,hP,⟨_,_,rfl⟩⟩
end
end VS.Internal
end
section
open PySem PySem.W PyProof.Rows PySem.SeqAt
set_option backward.match.sparseCases false
namespace VS.Internal
theorem clip_eq(x:Int)(n:Nat):(if x<0 then max (x+(n:Int)) 0 else min x (n:Int))=((if x<0 then n-(-x).toNat else min x.toNat n:Nat):Int):=by
 by_cases h:x<0
 ·rw [if_pos h,if_pos h]
  obtain⟨k,rfl⟩:=Int.eq_negSucc_of_lt_zero h
  show max (Int.subNatNat n (k+1)) 0=((n-(k+1):Nat):Int)
  rcases Nat.le_total (k+1) n with q | q
  ·rw [Int.subNatNat_of_le q];exact Int.max_eq_left (Int.natCast_nonneg _)
  ·simp only [Nat.sub_eq_zero_of_le q];exact Int.max_eq_right (by rw [Int.subNatNat_eq_coe];exact Int.sub_nonpos_of_le (Int.ofNat_le.mpr q))
 ·rw [if_neg h,if_neg h]
  obtain⟨k,rfl⟩:=Int.eq_ofNat_of_zero_le (Int.not_lt.mp h)
  show min (k:Int) n=((min k n:Nat):Int)
  rcases Nat.le_total k n with q | q
  ·rw [Nat.min_eq_left q];exact Int.min_eq_left (Int.ofNat_le.mpr q)
  ·rw [Nat.min_eq_right q];exact Int.min_eq_right (Int.ofNat_le.mpr q)
theorem cut_adjust(lo hi:Option Int)(n:Nat):Builtin.Slice.sliceAdjust lo hi 1 (n:Int)=(((kms_lo lo n:Nat):Int),((kms_hi hi n:Nat):Int)):=by
 refine Prod.ext ?_ ?_
 ·cases lo with
  | none=>rfl
  | some x=>exact clip_eq x n
 ·cases hi with
  | none=>rfl
  | some x=>exact clip_eq x n
theorem cut_places(a b:Nat):Builtin.Slice.slicePlaces (a:Int) (b:Int) 1=b-a:=by
 unfold Builtin.Slice.slicePlaces
 have h1:(1:Int)>0:=by decide
 simp only [h1,if_true,Int.ediv_one]
 by_cases q:(a:Int)<b
 ·rw [if_pos q,Int.sub_add_cancel];exact Int.toNat_sub b a
 ·rw [if_neg q];exact(Nat.sub_eq_zero_of_le (Int.ofNat_le.mp (Int.not_lt.mp q))).symm
section
variable{prog:Program}{w:World}{A:Around}{E:Value→Shared→Prop}{s:Shared}
theorem slicePart_of{v:Value}{k:Option Int}{Q:Option Int→Shared→Prop}(p:IsPart v k)(h:Q k s):wpAny (model prog w) A (Builtin.Slice.slicePartIndex v) Q E s:=by
 cases p with
 | none=>exact slicePart_none h
 | int i t=>exact slicePart_int h
theorem sliceApplied_of{sl:Addr}{vl vu:Value}{lo hi:Option Int}{n:Nat}{Q:Int × Int × Nat→Shared→Prop}(hs:s.heap.IsSliceOf sl vl vu .none)(pl:IsPart vl lo)(pu:IsPart vu hi)
  (h:Q ((kms_lo lo n:Nat),1,kms_hi hi n-kms_lo lo n) s):wpAny (model prog w) A (Builtin.Slice.sliceApplied (.ref sl) (pure (n:Int))) Q E s:=by
 refine byC λ nG=>?_
 obtain⟨os,hos,hcs,hds⟩:=id hs
 refine nG ?_
 refine wpAny_bind (wpAny_bind (wpAny_field hos hds (x:=vl) rfl (wpAny_bind (wpAny_field hos hds (x:=vu) rfl (wpAny_bind (wpAny_field hos hds (x:=.none) rfl (wpAny_pure ?_)))))))
 refine wpAny_bind (slicePart_none ?_)
 refine wpAny_bind (slicePart_of pl (wpAny_bind (slicePart_of pu (wpAny_bind (wpAny_pure ?_)))))
 show wpAny _ _ (match Builtin.Slice.sliceAdjust lo hi 1 (n:Int) with | (lo,hi)=>pure (lo,(1:Int),Builtin.Slice.slicePlaces lo hi 1)) _ _ s
 rw [cut_adjust lo hi n]
 show wpAny _ _ (pure (((kms_lo lo n:Nat):Int),(1:Int),Builtin.Slice.slicePlaces ((kms_lo lo n:Nat):Int) ((kms_hi hi n:Nat):Int) 1)) _ _ s
 rw [cut_places]
 exact wpAny_pure h
theorem cut_pick(xs:Array Value)(a k:Nat):((List.range k).filterMap λ(j:Nat)=>xs[((a:Int)+(j:Int)*1).toNat]?).toArray=((xs.toList.drop a).take k).toArray:=by
 have e:(λ(j:Nat)=>xs[((a:Int)+(j:Int)*1).toNat]?)=λ j=>xs[a+j]?:=by
  funext j
  have:((a:Int)+(j:Int)*1).toNat=a+j:=by rw [Int.mul_one];rfl
  rw [this]
 rw [e]
 have:=pick_run xs a k
 rw [List.filterMap_map] at this
 rw [←this]
 rfl
theorem wpIf{α:Type}{M:Model}{c:Prop}[Decidable c]{a b:Sem α}{Q:α→Shared→Prop}{E:Value→Shared→Prop}(h1:c→wpAny M A a Q E s)(h2:¬ c→wpAny M A b Q E s):wpAny M A (if c then a else b) Q E s:=by
 by_cases h:c
 ·rw [if_pos h];exact h1 h
 ·rw [if_neg h];exact h2 h
theorem getItem_tuple_cut{t sl:Addr}{items:Array Value}{vl vu:Value}{lo hi:Option Int}{Q:Value→Shared→Prop}(ht:IsTup s.heap t items)(hs:s.heap.IsSliceOf sl vl vu .none)(pl:IsPart vl lo)(pu:IsPart vu hi)
  (h0:(items.toList.drop (kms_lo lo items.size)).take (kms_hi hi items.size-kms_lo lo items.size)=items.toList→Q (.ref t) s)
  (h:Q (.ref s.heap.objs.size) {s with heap:=s.heap.push {cls:=.type "tuple",data:=.seq ((items.toList.drop (kms_lo lo items.size)).take (kms_hi hi items.size-kms_lo lo items.size)).toArray}})
  (hsz:items.size≤sizeLine):wpAny (model prog w) A (getItem (.ref t) (.ref sl)) Q E s:=by
 have hdrop:sizeOk (.seq ((items.toList.drop (kms_lo lo items.size)).take (kms_hi hi items.size-kms_lo lo items.size)).toArray):=by
  show((items.toList.drop _).take _).toArray.size≤sizeLine
  refine Nat.le_trans (List.length_take_le' _ _) ?_
  rw [List.length_drop]
  exact Nat.le_trans (Nat.sub_le _ _) hsz
 refine byC λ nG=>?_
 obtain⟨os,hos,hcs,hds⟩:=id hs
 refine nG ?_
 have hTs:s.TypeIs (.ref sl) "slice":=⟨os,hos,hcs⟩
 unfold getItem
 try with_reducible refine wpAny_holding ?_
 first | refine wpAny_bind (wpAny_pure ?_) | skip
 refine wpAny_bind (wpAny_sequenceKey ht.typeIs (by decide) ?_)
 refine wpAny_bind (wpAny_callSpecial?_slot (name:=Str.ofString "__getitem__") ht.typeIs slot_tuple_getitem
  (wpAny_call_entry slot_tuple_getitem ht.typeIs entry_tuple_getitem ?_ (args_tuple_getitem _ _)))
 show wpAny _ _ (Builtin.Tuple.tupleItemsOf (.ref t) >>= _) _ _ s
 refine wpAny_bind (tupleItemsOf_ ht ?_)
 refine wpAny_bind (wpAny_typeOf hTs ?_)
 refine wpAny_bind (sliceApplied_of hs pl pu ?_)
 show wpAny _ _ (if(((kms_lo lo items.size:Nat):Int)==0&&(1:Int)==1&&(kms_hi hi items.size-kms_lo lo items.size)==items.size)=true then _ else _) _ _ s
 refine wpIf (λ hq=>?_) λ _=>?_
 ·rw [Bool.and_eq_true,beq_iff_eq] at hq
  have h1:kms_lo lo items.size=0:=by lia
  have h2:kms_hi hi items.size-kms_lo lo items.size=items.size:=hq.2
  have:=h0 (by rw [h1] at h2 ⊢;simp only [h2,List.drop_zero];exact List.take_of_length_le (by simp))
  refine wpAny_bind (m:=Builtin.Tuple.tupleIsExact (.ref t)) ?_
  refine wpAny_bind (wpAny_typeOf ht.typeIs (wpAny_pure ?_))
  first
   | exact wpAny_bind (wpAny_rule (wpAny_pure ⟨_,rfl,wpAny_pure this⟩))
   | exact wpAny_bind (wpAny_rule (wpAny_bind (wpAny_pure (wpAny_pure ⟨_,rfl,wpAny_pure this⟩))))
   | (trace_state;fail "x")
 ·simp only [cut_pick]
  first
   | exact wpAny_bind (m:=Builtin.Tuple.tupleExact _) (wpAny_newObj_type (wpAny_pure ⟨_,rfl,wpAny_pure h⟩) hdrop)
   | exact wpAny_bind (m:=Builtin.Tuple.tupleExact _) (wpAny_newObj_type (wpAny_bind (wpAny_pure (wpAny_pure ⟨_,rfl,wpAny_pure h⟩))) hdrop)
   | exact wpAny_bind (wpAny_bind (m:=Builtin.Tuple.tupleExact _) (wpAny_newObj_type (wpAny_pure (wpAny_pure ⟨_,rfl,wpAny_pure h⟩)) hdrop))
   | exact wpAny_bind (wpAny_bind (m:=Builtin.Tuple.tupleExact _) (wpAny_newObj_type (wpAny_pure ⟨_,rfl,wpAny_pure h⟩) hdrop))
end
section
variable{g:G0}{c:Cx}{m:PySem.Str→Option Value}{φ:Ph}{nw:Nw}{H:Hp}{s:Shared}{A:Around}{E:Value→Shared→Prop}
theorem part_is{K:Frag}{v:V}{u:Value}{k:Option Int}(h:VR K φ nw v u)(e:partI v=some k):IsPart u k:=by
 revert h e
 cases v with
 | none=>exact λ h e=>none_is h▸Option.some.inj e▸.none
 | int i=>exact λ h e=>(int_is h).elim λ t q=>q▸Option.some.inj e▸.int _ _
 | _=>exact λ _ e=>no_some e
theorem VRs.cut{K:Frag}{vs:List V}{xs:List Value}(h:VRs K φ nw vs xs)(lo hi:Option Int):VRs K φ nw (cutL lo hi vs) ((xs.drop (kms_lo lo xs.length)).take (kms_hi hi xs.length-kms_lo lo xs.length)):=by
 rw [h.length]
 exact(h.drop _).take _
theorem sliceV_sound{v lo hi:V}{u ul uh:Value}{value:Expr}{l' h':Option Expr}{p:Pos}{P:V→Hp→Prop}{X:Addr→Hp→Prop}(fx:Fx g c)(S:St g c m φ nw H s)
  (hv:VR g.K φ nw v u) (hl:VR g.K φ nw lo ul) (hh:VR g.K φ nw hi uh) (h:Run (sliceV g.K v lo hi H) P X) :
  wpAny (model g.prog g.w) A (subscriptTail value (.Slice l' h' none p) u (.ref s.heap.objs.size)) (PostE g c m φ nw P s) E {s with heap:=s.heap.push {cls:=.type "slice",data:=.fields #[ul,uh,.none]}}:=by
  refine byC λ nG=>?_
  obtain⟨lo',e1,h0⟩:=onSome_is h
  obtain⟨hi',e2,h1⟩:=onSome_is h0
  have pl:=part_is hl e1
  have pu:=part_is hh e2
  have hfr:∀ p∈nw,p.1≠(s.heap.push {cls:=.type "slice",data:=.fields #[ul,uh,.none]}).objs.size:=λ p hp=>by
   simp only [Heap.size_push];exact Nat.ne_of_lt (Nat.lt_succ_of_lt (Heap.lt_size (S.N p hp).1))
  have lst:∀{a:Addr}{xs:List V}{us:List Value},s.heap.IsList a us.toArray→VRs g.K φ nw xs us→Run ((if xs.length≤1000 then alloc (.list (cutL lo' hi' xs)) else no:M V) H) P X→
    wpAny (model g.prog g.w) A (subscriptTail value (.Slice l' h' none p) (.ref a) (.ref s.heap.objs.size)) (PostE g c m φ nw P s) E {s with heap:=s.heap.push {cls:=.type "slice",data:=.fields #[ul,uh,.none]}}:=λ{a xs us} hls hx h=>by
   obtain⟨hz,h⟩:=rIf h
   have hlen:=hx.length
   refine tail_any (s:={s with heap:=s.heap.push {cls:=.type "slice",data:=.fields #[ul,uh,.none]}}) (Heap.IsList.typeIs (s:={s with heap:=s.heap.push _}) (hls.push _)) list_getitem_lookup
    (wpAny_getItem_list_slice (hls.push _) (Heap.IsSliceOf.new ..) pl pu .none (by decide) ?_ (by simp only [List.size_toArray,hlen,sizeL];exact Nat.le_trans hz (by decide))) rfl
   rw [kms_pick_eq]
   have N1:=News.push (S.F.push {cls:=.type "slice",data:=.fields #[ul,uh,.none]}) (S.N.grown λ _ _ e=>Heap.get?_push_of_some _ e)
    (listOf (kms_pick us.toArray.toList lo' hi').toArray 0)
   exact list_new (tk:=s.toks) S ((S.F.push _).push _) N1 hfr (hx.cut lo' hi') h
  cases v with
  | tup xs=>
    obtain⟨a,us,rfl,ht,hx⟩:=tup_is fx S hv
    obtain⟨hz,h2⟩:=rIf h1
    have hP:P (.tup (cutL lo' hi' xs)) H:=h2
    have hlen:=hx.length
    have ht':IsTup (s.heap.push {cls:=.type "slice",data:=.fields #[ul,uh,.none]}) a us.toArray:=ht.keeps λ _ _ e=>Heap.get?_push_of_some _ e
    have hcut:=hx.cut lo' hi'
    refine nG ?_
    refine tail_any (s:={s with heap:=s.heap.push {cls:=.type "slice",data:=.fields #[ul,uh,.none]}}) ht'.typeIs slot_tuple_getitem.lookup
     (getItem_tuple_cut ht' (Heap.IsSliceOf.new ..) pl pu (λ q=>?_) ?_ (by simp only [List.size_toArray,hlen,sizeL];lia)) rfl
    ·rw [List.size_toArray] at q
     have q':(us.drop (kms_lo lo' us.length)).take (kms_hi hi' us.length-kms_lo lo' us.length)=us:=by simpa using q
     rw [q'] at hcut
     refine⟨φ,nw,H,.tup (cutL lo' hi' xs),S.more (tk:=s.toks) (S.F.push _) (S.N.grown λ _ _ e=>Heap.get?_push_of_some _ e) λ _ h=>h,.refl _ _,Eq.mpr vr_tup ?_,hP,⟨_,_,rfl⟩⟩
     refine byC λ nG=>?_
     obtain⟨a',us',h1,h2,h3⟩:=Eq.mp vr_tup hv
     refine nG ?_
     cases h1
     refine⟨a,us,rfl,?_,hcut⟩
     rcases ht with ⟨o,ho,hc,n,hd⟩
     rcases h2 with ⟨o',n',k1,k2,k3,k4⟩ | ⟨n',sl,k1⟩
     ·have q1:=(S.N _ k1).1
      have q2:o=o':=Option.some.inj (ho.symm.trans q1)
      have e:us.toArray=us'.toArray:=by rw [q2,k4] at hd;cases hd;rfl
      exact .inl ⟨o',n',k1,k2,k3,by rw [k4,e]⟩
     ·have q1:=(S.in fx) _ _ k1
      have q2:=Option.some.inj (ho.symm.trans q1)
      have e:us'.toArray=us.toArray:=by rw [q2] at hd;cases hd;rfl
      exact .inr ⟨n',sl,by rw [←e];exact k1⟩
    ·dsimp only [List.size_toArray]
     have N1:=News.push (S.F.push {cls:=.type "slice",data:=.fields #[ul,uh,.none]}) (S.N.grown λ _ _ e=>Heap.get?_push_of_some _ e)
      {cls:=.type "tuple",data:=.seq (((us.toArray).toList.drop (kms_lo lo' us.length)).take (kms_hi hi' us.length-kms_lo lo' us.length)).toArray}
     exact PostE.add (tk:=s.toks) S ((S.F.push _).push _) N1 (tup_new (xs:=(us.drop (kms_lo lo' us.length)).take (kms_hi hi' us.length-kms_lo lo' us.length)) (n:=0) (not_mut S hfr) (.head _) (hcut.mono1 λ _ h=>.tail _ h)) hP
  | ref i=>
   obtain⟨o,ho,h2⟩:=run_getO (i:=i) h1
   obtain⟨xs,rfl,h3⟩:=onL_is h2
   obtain⟨a,us,ob,rfl,_,hm,hls,hx⟩:=list_is S hv ho
   exact nG (lst hls hx h3)
  | sta w=>
   obtain⟨xs,hk,h2⟩:=onSome_is h1
   obtain⟨a,ha,hk⟩:=Option.bind_eq_some_iff.mp hk
   obtain⟨od,us,nn,sl,hl,hk⟩:=lstK_is hk
   cases hv.trans (vRef_is ha)
   exact nG (lst (us:=us.toList) ⟨_,(S.in fx) _ _ hl,rfl,nn,rfl⟩ (intsOf_VRs hk) h2)
  | _=>exact h1.elim
end
end VS.Internal
end
section
open PySem PySem.W PyProof.Rows PySem.SeqAt
set_option backward.match.sparseCases false
namespace VS.Internal
theorem dict_mapFields(o:Obj)(f:Array Value→Array Value):(o.mapFields f).dict=o.dict:=by
 obtain⟨c,d,dt,sl⟩:=o;cases dt<;>rfl
theorem entry_unchain:entryFor table "proto.unchain" = some Builtin.«proto.unchain»:=entryFor_of_tree (by kernel_rfl)
noncomputable def HeldOk(A:Around)(h:Heap):Prop:=A.handled=none∨∃ e o vs,A.handled=some (.ref e)∧h.get? e=some o∧o.data = .fields vs∧vs[2]? = some .none
theorem HeldOk.keeps{A:Around}{h h':Heap}(x:HeldOk A h)(k:∀ b o,h.get? b=some o→h'.get? b=some o):HeldOk A h':=by
 rcases x with h | ⟨e,o,vs,h1,h2,h3⟩
 ·exact .inl h
 ·exact .inr ⟨e,o,vs,h1,k _ _ h2,h3⟩
theorem HeldOk.but{A:Around}{h h':Heap}{it:Addr}(x:HeldOk A h)(hni:∀ e,A.handled=some (.ref e)→e≠it)(k:Heap.ExtBut it h h'):HeldOk A h':=by
 rcases x with h | ⟨e,o,vs,h1,h2,h3⟩
 ·exact .inl h
 ·exact .inr ⟨e,o,vs,h1,k _ _ (hni e h1) h2,h3⟩
theorem but_upd{h:Heap}{it:Addr}{f:Obj→Obj}:Heap.ExtBut it h (h.update it f):=λ _ _ hb q=>(Heap.get?_update_other _ _ (Ne.symm hb)).trans q
theorem HeldOk.in1{A:Around}{h:Heap}(x:HeldOk A h):HeldOk A.in1 h:=x
section
variable{prog:Program}{w:World}{A:Around}{E:Value→Shared→Prop}{s:Shared}
theorem raise_new{α:Type}{Q:α→Shared→Prop}{a:Addr}{o:Obj}{fs:Array Value}(HO:HeldOk A s.heap)(ho:s.heap.get? a=some o)(hd:o.data = .fields fs)(hz:2<fs.size)(hne:∀ e,A.handled=some (.ref e)→e≠a)
  (hE:∀ h',(∀ b o,b≠a→s.heap.get? b=some o→h'.get? b=some o)→(∃ o',h'.get? a=some o'∧o'.cls=o.cls∧o'.dict=o.dict∧∃ fs':Array Value,o'.data = .fields fs'∧fs'[0]? = fs[0]?∧fs'[1]? = fs[1]?∧fs'[2]? = (if A.handled=none then fs[2]? else A.handled))→
   E (.ref a) {s with heap:=h'}):wpAny (model prog w) A (raiseNew (.ref a):Sem α) Q E s:=by
 dsimp only [raiseNew]
 refine wpAny_bind (wpAny_handled ?_)
 rcases HO with h0 | ⟨e,oe,vs,h1,h2,h3,h4⟩
 ·rw [h0]
  exact wpAny_bind (wpAny_pure (wpAny_throw (hE _ (λ _ _ _ q=>q) ⟨o,ho,rfl,rfl,fs,hd,rfl,rfl,by rw [if_pos h0]⟩)))
 ·rw [h1]
  have hea:e≠a:=hne e h1
  dsimp only
  have hb:(Value.ref e != Value.ref a)=true:=by simp [hea]
  rw [if_pos hb]
  refine wpAny_bind (wpAny_holding (wpAny_runValue (codeAny_builtin entry_unchain ?_)))
  refine wpAny_bind (wpAny_field h2 h3 h4 ?_)
  have fin:wpAny (model prog w) A (updateField a 2 (.ref e) >>= λ _=>(throw (.ref a):Sem α)) Q E s:=by
   refine wpAny_bind ?_
   refine wpAny_bind (wpAny_load ho ?_)
   rw [hd]
   dsimp only
   rw [if_pos hz]
   have hd':=Obj.data_mapFields hd (·.setIfInBounds 2 (Value.ref e))
   refine wpAny_update ho (wpAny_throw (hE _ (λ b ob hba q=>(Heap.get?_update_other _ _ (Ne.symm hba)).trans q) ⟨_,Heap.get?_update_self _ ho (Obj.isFreed_of_fields hd'),Obj.cls_mapFields ..,?_,_,hd',?_,?_,?_⟩))
   ·exact dict_mapFields _ _
   ·simp
   ·simp
   ·rw [if_neg (by rw [h1];simp),h1]
    simp [hz]
  first
   | exact wpAny_bind (wpAny_pure (wpAny_pure fin))
   | exact wpAny_pure (wpAny_pure fin)
   | exact wpAny_pure fin
theorem stop_new{α:Type}{Q:α→Shared→Prop}(HO:HeldOk A s.heap)
  (hE:∀ h' e,(∀ b o,s.heap.get? b=some o→h'.get? b=some o)→(∃ o,h'.get? e=some o∧o.cls = .type "StopIteration")→E (.ref e) {s with heap:=h'}) :
  wpAny (model prog w) A (newExc (.type "StopIteration") [] >>= λ e=>(raiseNew e:Sem α)) Q E s:=by
 refine wpAny_bind ?_
 refine wpAny_bind (wpAny_newObj_type ?_ (by size_fits))
 refine wpAny_bind (m:=firstArgMember _ _) (wpAny_of_eq (a:=Value.none) (by first | rfl | (simp only [firstArgMember];rfl)) ?_)
 refine wpAny_newObj_type ?_ (by size_fits)
 have k:∀ b o,s.heap.get? b=some o→((s.heap.push {cls:=.type "tuple",dict:=none,data:=.seq ([]:List Value).toArray}).push
   {cls:=.type "StopIteration",dict:=none,data:=.fields (#[Value.ref s.heap.objs.size,.none,.none,.none,.bool false,.none]++ownMembersOf (.type "StopIteration") [])}).get? b=some o:=
  λ b o e=>Heap.get?_push_of_some _ (Heap.get?_push_of_some _ e)
 refine raise_new (o:={cls:=.type "StopIteration",dict:=none,data:=.fields (#[Value.ref s.heap.objs.size,.none,.none,.none,.bool false,.none]++ownMembersOf (.type "StopIteration") [])})
  (HO.keeps k) (Heap.get?_push_size _ rfl) rfl (by rw [Array.size_append];exact Nat.lt_of_lt_of_le (by decide:2<6) (Nat.le_add_right 6 _)) (λ e he q=>?_) λ h' k' hq=>hE _ _ (λ b o e=>k' b o (λ q=>?_) (k b o e)) (hq.imp λ _ q=>⟨q.1,q.2.1⟩)
 ·rcases HO with h0 | ⟨e',oe,vs,h1,h2,_⟩
  ·rw [h0] at he;exact no_some he
  ·rw [h1] at he;cases he
   have:=Heap.lt_size h2
   rw [q,Heap.size_push] at this
   exact absurd this (Nat.not_lt.mpr (Nat.le_succ _))
 ·have:=Heap.lt_size e
  rw [q,Heap.size_push] at this
  exact absurd this (Nat.not_lt.mpr (Nat.le_succ _))
theorem next_list_end{it l:Addr}{i:Nat}{items}{Q:Option Value→Shared→Prop}(HO:HeldOk A s.heap)(hni:∀ e,A.handled=some (.ref e)→e≠it)
  (hit:s.heap.IsListIter it l i) (hl:s.heap.IsList l items) (hx:items[i]? = none)
  (hQ:∀ h',Heap.ExtBut it s.heap h'→Q none {s with heap:=h'}):wpAny (model prog w) A (pyNext (.ref it)) Q E s:=by
 refine byC λ nG=>?_
 obtain⟨o,ho,hc,hd⟩:=id hit
 obtain⟨ol,hol,_,nl,hdl⟩:=hl
 refine nG ?_
 refine wpAny_bind (wpAny_attempt (wpAny_callSpecial?_slot (name:=Str.ofString "__next__") hit.typeIs slot_listiter_next
  (wpAny_call_entry slot_listiter_next hit.typeIs entry_listiter_next ?_ (args_listiter_next _))))
 show wpAny _ _ (field (.ref it) 0 >>= _) _ _ s
 refine wpAny_bind (wpAny_field ho hd (x:=.ref l) rfl ?_)
 dsimp only [if_neg (show ¬((Value.ref l==Value.none)=true) from Bool.false_ne_true)]
 refine wpAny_bind (wpAny_field ho hd (x:=.int i 0) rfl ?_)
 refine wpAny_bind (wpAny_seqItems hol hdl ?_)
 simp only [Int.toNat_natCast,hx]
 refine wpAny_bind (wpAny_rule (wpAny_bind (wpAny_setField ho hd (by simp) ?_)))
 refine stop_new (A:=A.in1) (HeldOk.in1 (HO.but hni but_upd)) λ h' e k he=>?_
 refine wpAny_bind (wpAny_isInstance (T:="StopIteration") (b:=true) he isSubtype_stop ?_)
 exact wpAny_pure (hQ _ λ b ob hb q=>k _ _ (but_upd _ _ hb q))
theorem next_tuple_end{it t:Addr}{i:Nat}{items}{Q:Option Value→Shared→Prop}(HO:HeldOk A s.heap)(hni:∀ e,A.handled=some (.ref e)→e≠it)
  (hit:s.heap.IsTupleIter it t i) (ht:s.heap.IsTuple t items) (hx:items[i]? = none)
  (hQ:∀ h',Heap.ExtBut it s.heap h'→Q none {s with heap:=h'}):wpAny (model prog w) A (pyNext (.ref it)) Q E s:=by
 refine byC λ nG=>?_
 obtain⟨o,ho,hc,hd⟩:=id hit
 obtain⟨ol,hol,_,nl,hdl⟩:=ht
 refine nG ?_
 refine wpAny_bind (wpAny_attempt (wpAny_callSpecial?_slot (name:=Str.ofString "__next__") hit.typeIs F.slot_tuple_iterator_next
  (wpAny_call_entry F.slot_tuple_iterator_next hit.typeIs F.entry_tuple_iterator_next ?_ (F.args_tuple_iterator_next_1 _))))
 show wpAny _ _ (field (.ref it) 0 >>= _) _ _ s
 refine wpAny_bind (wpAny_field ho hd (x:=.ref t) rfl ?_)
 dsimp only [if_neg (show ¬((Value.ref t==Value.none)=true) from Bool.false_ne_true)]
 refine wpAny_bind (wpAny_field ho hd (x:=.int i 0) rfl ?_)
 refine wpAny_bind (wpAny_seqItems hol hdl ?_)
 simp only [Int.toNat_natCast,hx]
 refine wpAny_bind (wpAny_rule (wpAny_bind (wpAny_setField ho hd (by simp) ?_)))
 refine stop_new (A:=A.in1) (HeldOk.in1 (HO.but hni but_upd)) λ h' e k he=>?_
 refine wpAny_bind (wpAny_isInstance (T:="StopIteration") (b:=true) he isSubtype_stop ?_)
 exact wpAny_pure (hQ _ λ b ob hb q=>k _ _ (but_upd _ _ hb q))
theorem next_range_end{it:Addr}{x left step:Int}{Q:Option Value→Shared→Prop}(HO:HeldOk A s.heap)(hit:IsRangeIter s.heap it x left step)(hleft:left≤0)
  (hQ:∀ h',Heap.ExtBut it s.heap h'→Q none {s with heap:=h'}):wpAny (model prog w) A (pyNext (.ref it)) Q E s:=by
 have hT:s.TypeIs (.ref it) "range_iterator":=⟨_,hit,rfl⟩
 refine wpAny_bind (wpAny_attempt (wpAny_callSpecial?_slot (name:=Str.ofString "__next__") hT F.slot_range_iterator_next
  (wpAny_call_entry F.slot_range_iterator_next hT F.entry_range_iterator_next ?_ (F.args_range_iterator_next_1 _))))
 show wpAny _ _ (field (.ref it) 0 >>= _) _ _ s
 refine wpAny_bind (wpAny_field hit rfl (x:=rawInt x) rfl ?_)
 refine wpAny_bind (wpAny_field hit rfl (x:=rawInt left) rfl ?_)
 refine wpAny_bind (wpAny_field hit rfl (x:=rawInt step) rfl ?_)
 show wpAny _ _ (if left≤0 then _ else _) _ _ s
 rw [if_pos hleft]
 refine wpAny_bind (wpAny_rule ?_)
 refine wpAny_bind ?_
 refine stop_new (A:=A.in1) (HeldOk.in1 HO) λ h' e k he=>?_
 refine wpAny_bind (wpAny_isInstance (T:="StopIteration") (b:=true) he isSubtype_stop ?_)
 exact wpAny_pure (hQ _ λ b ob hb q=>k _ _ q)
end
end VS.Internal
end
section
open PySem PySem.W PyProof.Rows PySem.SeqAt
set_option backward.match.sparseCases false
namespace VS.Internal
noncomputable def iterCls:List String:=["list_iterator","tuple_iterator","range_iterator","bytes_iterator"]
noncomputable def Iter(o:Obj):Prop:=(∃ T∈iterCls,o.cls = .type T)∧∃ fs,o.data = .fields fs
theorem Iter.notSolid{o:Obj}(h:Iter o):¬ Solid o:=by
 rintro (q | q | ⟨a,q⟩ | ⟨v,q⟩ | ⟨es,n,q⟩)
 ·exact h.1.elim λ T k=>absurd (Value.type.inj (k.2.symm.trans q)▸k.1) (by decide)
 ·exact h.1.elim λ T k=>absurd (Value.type.inj (k.2.symm.trans q)▸k.1) (by decide)
 ·exact h.1.elim λ T k=>nomatch k.2.symm.trans q
 ·exact h.2.elim λ fs k=>nomatch k.symm.trans q
 ·exact h.2.elim λ fs k=>nomatch k.symm.trans q
section
variable{g:G0}{c:Cx}{m:PySem.Str→Option Value}{φ:Ph}{nw:Nw}{H:Hp}{s:Shared}{A:Around}{E:Value→Shared→Prop}
theorem same_obj(S:St g c m φ nw H s){a:Addr}{o o':Obj}(h:(a,o)∈nw)(h':(a,o')∈nw):o=o':=Option.some.inj ((S.N _ h).1.symm.trans (S.N _ h').1)
theorem heldOk(S:St g c m φ nw H s):HeldOk c.A s.heap:=by
 rcases S.ho with h | ⟨e,o,vs,_,h1,h2,_,_,h5,h6⟩
 ·exact .inl h
 ·exact .inr ⟨e,o,vs,h1,(S.N _ h2).1,h5,h6⟩
theorem held_ne(S:St g c m φ nw H s){I:Addr}{o:Obj}(hI:(I,o)∈nw)(hn:¬ Solid o):∀ e,c.A.handled=some (.ref e)→e≠I:=λ e he q=>by
 rcases S.ho with h | ⟨e',oe,vs,C,h1,h2,_,h4,_⟩
 ·rw [h] at he;exact no_some he
 ·rw [h1] at he;cases he
  subst q
  exact hn (same_obj S h2 hI▸.inr (.inr (.inl ⟨C,h4⟩)))
noncomputable def ndrop(nw:Nw)(I:Addr):Nw:=nw.filter λ p=>!(p.1==I)
theorem mem_ndrop{nw:Nw}{I:Addr}{p:Addr × Obj}(h:p∈nw)(hd:p.1≠I):p∈ndrop nw I:=List.mem_filter.mpr ⟨h,by simp [hd]⟩
theorem of_ndrop{nw:Nw}{I:Addr}{p:Addr × Obj}(h:p∈ndrop nw I):p∈nw∧p.1≠I:=⟨(List.mem_filter.mp h).1,filter_ne p h⟩
theorem extS_but(S:St g c m φ nw H s){I:Addr}{o:Obj}{nw':Nw}(hI:(I,o)∈nw)(hn:¬ Solid o)(hs:∀ p∈nw,p.1≠I→p∈nw'):ExtS φ nw φ nw':=
 ⟨List.prefix_refl _,λ p h n sol=>⟨.inl (hs p h λ q=>hn (by obtain⟨a,ob⟩:=p;dsimp only at q;subst q;exact same_obj S h hI▸sol)),n⟩⟩
theorem st_drop(S:St g c m φ nw H s){I:Addr}{o:Obj}(hI:(I,o)∈nw)(hn:¬ Solid o)(hm:I∉mutA φ){h':Heap}{tk:Nat}(hk:Heap.ExtBut I s.heap h') :
  St g c m φ (ndrop nw I) H {s with heap:=h',toks:=tk}∧ExtS φ nw φ (ndrop nw I):=by
 have D:=S.N _ hI
 have x:=extS_but S hI hn (nw':=ndrop nw I) λ p h q=>mem_ndrop h q
 refine byC λ nG=>?_
 obtain⟨oL,a1,a2,hoL,a3⟩:=S.F.ns
 refine nG ?_
 refine⟨⟨⟨⟨oL,a1,a2,hk _ _ (Ne.symm D.2.1) hoL,a3⟩,λ b ob e=>hk _ _ (λ q=>by rw [q,D.2.2] at e;exact no_some e) (S.F.keep _ _ e),S.F.above⟩,λ p hp=>?_,?_,S.fo.mono x,S.ho.mono x⟩,x⟩
 ·obtain⟨h1,h2⟩:=of_ndrop hp
  exact⟨hk _ _ h2 (S.N _ h1).1,(S.N _ h1).2⟩
 ·exact S.C.chg x λ d hd ob h=>mem_ndrop h λ q=>hm (q▸hd)
theorem st_chg(S:St g c m φ nw H s){I:Addr}{o o':Obj}(hI:(I,o)∈nw)(hn:¬ Solid o)(hm:I∉mutA φ){h':Heap}{tk:Nat}(hk:Heap.ExtBut I s.heap h')(ho:h'.get? I=some o') :
  St g c m φ (nset nw I o') H {s with heap:=h',toks:=tk}∧ExtS φ nw φ (nset nw I o'):=by
 obtain⟨S',_⟩:=st_drop (tk:=tk) S hI hn hm hk
 have D:=S.N _ hI
 have x:=extS_but S hI hn (nw':=nset nw I o') λ p h q=>mem_nset h q
 refine⟨⟨S'.F,λ p hp=>?_,S.C.chg x λ d hd ob h=>mem_nset h λ q=>hm (q▸hd),S.fo.mono x,S.ho.mono x⟩,x⟩
 rcases List.mem_cons.mp hp with rfl | hp
 ·exact⟨ho,D.2⟩
 ·exact S'.N p hp
noncomputable def ItD(K:Frag)(src:Src)(k:Nat)(φ:Ph)(nw:Nw)(o:Obj):Prop:=match src with
 | .lst i=>∃ a,φ[i]? = some (a,a)∧o.cls = .type "list_iterator"∧o.data = .fields #[.ref a,.int k 0]
 | .tup vs=>∃ a xs,(TupIn K φ nw a xs∧VRs K φ nw vs xs)∧o.cls = .type "tuple_iterator"∧o.data = .fields #[.ref a,.int k 0]
 | .rng n=>o = {cls:=.type "range_iterator",dict:=none,data:=.fields #[rawInt ((k:Int)),rawInt (max n 0-k),rawInt 1],slots:=#[]}
 | .byt b=>∃ t,o.cls = .type "bytes_iterator"∧o.data = .fields #[.bytes b t,.int k 0]
inductive IterOk(K:Frag)(src:Src)(k:Nat)(φ:Ph)(nw:Nw)(I:Addr):Prop
 | mk (o:Obj) (m:(I,o)∈nw) (d:ItD K src k φ nw o)
theorem ItD.iter{K:Frag}{src:Src}{k:Nat}{o:Obj}(h:ItD K src k φ nw o):Iter o:=by
 cases src with
 | lst i=>exact Exists.elim h λ a h=>⟨⟨_,by decide,h.2.1⟩,_,h.2.2⟩
 | tup vs=>exact Exists.elim h λ a h=>h.elim λ xs h=>⟨⟨_,by decide,h.2.1⟩,_,h.2.2⟩
 | rng n=>cases (h:o=_);exact⟨⟨_,by decide,rfl⟩,_,rfl⟩
 | byt b=>exact Exists.elim h λ t h=>⟨⟨_,by decide,h.1⟩,_,h.2⟩
theorem ItD.monoV{K:Frag}{src:Src}{k:Nat}{o:Obj}{φ':Ph}{nw':Nw}(x:ExtV φ nw φ' nw')(h:ItD K src k φ nw o):ItD K src k φ' nw' o:=by
 cases src with
 | lst i=>exact Exists.imp (λ a h=>⟨x.get h.1,h.2⟩) h
 | tup vs=>exact Exists.imp (λ a h=>h.imp λ xs h=>⟨⟨h.1.1.monoV x,VRs.monoV x _ _ h.1.2⟩,h.2⟩) h
 | rng n=>exact h
 | byt b=>exact h
theorem IterOk.obj{K:Frag}{src:Src}{k:Nat}{I:Addr}(h:IterOk K src k φ nw I):∃ o,(I,o)∈nw∧Iter o:=by
 cases h with | mk o m d=>exact⟨o,m,d.iter⟩
theorem IterOk.mono{K:Frag}{src:Src}{k:Nat}{I:Addr}{φ':Ph}{nw':Nw}(x:Ext φ nw φ' nw')(hm:I∉mutA φ)(h:IterOk K src k φ nw I):IterOk K src k φ' nw' I:=by
 cases h with | mk o m d=>exact⟨o,(x.ex _ m hm λ es k q=>d.iter.2.elim λ fs z=>nomatch z.symm.trans q).1,d.monoV x.s.v⟩
theorem IterOk.chg{K:Frag}{src:Src}{kk:Nat}{I:Addr}{nw':Nw}(y:ExtV φ nw φ nw')(hI:∀ o,(I,o)∈nw→(I,o)∈nw')(h:IterOk K src kk φ nw I):IterOk K src kk φ nw' I:=by
 cases h with | mk o m d=>exact⟨o,hI o m,d.monoV y⟩
theorem tupIn_is(fx:Fx g c)(S:St g c m φ nw H s){a:Addr}{xs:List Value}(h:TupIn g.K φ nw a xs):s.heap.IsTuple a xs.toArray:=by
 rcases h with ⟨o,n,h1,_,h3,h4⟩ | ⟨n,sl,h1⟩
 ·exact⟨o,(S.N _ h1).1,h3,n,h4⟩
 ·exact⟨_,(S.in fx) _ _ h1,rfl,n,rfl⟩
theorem next_bytes_end{prog:Program}{w:World}{it:Addr}{b:Array UInt8}{t:Tok}{i:Nat}{Q:Option Value→Shared→Prop}(HO:HeldOk A s.heap)(hni:∀ e,A.handled=some (.ref e)→e≠it)
  (hit:KBw.IsBytesIter s.heap it b t i) (hx:b[i]? = none)
  (hQ:∀ h',Heap.ExtBut it s.heap h'→Q none {s with heap:=h'}):wpAny (model prog w) A (pyNext (.ref it)) Q E s:=by
 refine byC λ nG=>?_
 obtain⟨o,ho,hc,hd⟩:=id hit
 refine nG ?_
 refine wpAny_bind (wpAny_attempt (wpAny_callSpecial?_slot (name:=PySem.Str.ofString "__next__") (KBw.iter_typeIs hit) KBw.slot_next
  (wpAny_call_entry KBw.slot_next (KBw.iter_typeIs hit) KBw.entry_next ?_ (KBw.args_next _))))
 show wpAny _ _ (field (.ref it) 0 >>= _) _ _ s
 refine wpAny_bind (wpAny_field ho hd (x:=.bytes b t) rfl ?_)
 refine wpAny_bind (wpAny_field ho hd (x:=.int i 0) rfl ?_)
 refine wpAny_bind (wpAny_of_eq (a:=b) rfl ?_)
 rw [Int.toNat_natCast,hx]
 refine wpAny_bind (wpAny_rule (wpAny_bind (wpAny_setField ho hd (by simp) ?_)))
 refine stop_new (A:=A.in1) (HeldOk.in1 (HO.but hni but_upd)) λ h' e k he=>?_
 refine wpAny_bind (wpAny_isInstance (T:="StopIteration") (b:=true) he isSubtype_stop ?_)
 exact wpAny_pure (hQ _ λ b ob hb q=>k _ _ (but_upd _ _ hb q))
inductive NextPost(g:G0)(c:Cx)(m:PySem.Str→Option Value)(φ:Ph)(nw:Nw)(H:Hp)(src:Src)(k:Nat)(I:Addr)(s:Shared)(r:Option V)(q:Option Value)(s':Shared):Prop
 | fin (nw':Nw) (u:Upto s s') (hk:∀ p∈nw,p.1≠I→p∈nw') (y:ExtS φ nw φ nw') (S:St g c m φ nw' H s') (hr:r=none) (hq:q=none)
 | stp (nw':Nw) (u:Upto s s') (hk:∀ p∈nw,p.1≠I→p∈nw') (y:ExtS φ nw φ nw') (S:St g c m φ nw' H s') (v:V) (x:Value) (hr:r=some v) (hq:q=some x) (hv:VR g.K φ nw' v x) (hi:IterOk g.K src (k+1) φ nw' I)
theorem NextPost.end{src:Src}{k:Nat}{I:Addr}{oI:Obj}{h':Heap}{tk:Nat}{r:Option V}(S:St g c m φ nw H s)(hoI:(I,oI)∈nw)(hit:Iter oI)(hm:I∉mutA φ)(hk:Heap.ExtBut I s.heap h')(hr:r=none):NextPost g c m φ nw H src k I s r none {s with heap:=h',toks:=tk}:=
 have q:=st_drop (tk:=tk) S hoI hit.notSolid hm hk
 .fin _ ⟨h',tk,rfl⟩ (λ p h q=>mem_ndrop h q) q.2 q.1 hr rfl
theorem NextPost.on{src:Src}{k:Nat}{I:Addr}{oI o':Obj}{h':Heap}{tk:Nat}{r:Option V}{v:V}{x:Value}(S:St g c m φ nw H s)(hoI:(I,oI)∈nw)(hit:Iter oI)(hm:I∉mutA φ)(hk:Heap.ExtBut I s.heap h')(ho:h'.get? I=some o')(hr:r=some v)(hv:VR g.K φ nw v x)
  (hi:ItD g.K src (k+1) φ nw o'):NextPost g c m φ nw H src k I s r (some x) {s with heap:=h',toks:=tk}:=
 have q:=st_chg (tk:=tk) S hoI hit.notSolid hm hk ho
 .stp _ ⟨h',tk,rfl⟩ (λ p h q=>mem_nset h q) q.2 q.1 v x hr rfl (VR.mono q.2 _ _ hv) ⟨o',mem_nset_self,hi.monoV q.2.v⟩
theorem get_none{α β:Type}{R:α→β→Prop}{l:List α}{xs:List β}{k:Nat}(h:L2 R l xs)(e:l[k]? = none):xs[k]? = none:=
 List.getElem?_eq_none_iff.mpr (h.length▸List.getElem?_eq_none_iff.mp e)
theorem lstO_is{o:O}{vs:List V}(h:lstO o=some vs):o = .list vs:=by
 cases o with
 | inst=>exact no_some h
 | list xs=>exact congrArg O.list (Option.some.inj h)
theorem next_sound{src:Src}{k:Nat}{I:Addr}{r:Option V}(fx:Fx g c)(S:St g c m φ nw H s)(hI:IterOk g.K src k φ nw I)(hm:I∉mutA φ)(e:itemAt src k H=some r) :
  wpAny (model g.prog g.w) c.A (pyNext (.ref I)) (NextPost g c m φ nw H src k I s r) E s:=by
 refine byC λ nG=>?_
 obtain⟨oI,hoI,hD⟩:=hI
 have hit:=hD.iter
 have gI:=(S.N _ hoI).1
 have hn:=held_ne S hoI hit.notSolid
 cases src with
 | lst i=>
  obtain⟨a,h1,h3,h4⟩:=hD
  obtain⟨ob,hi,e'⟩:=Option.bind_eq_some_iff.mp e
  obtain⟨vs,hv,e''⟩:=Option.map_eq_some_iff.mp e'
  cases lstO_is hv
  obtain⟨a',xs,ob,q1,q2,q3,hl,hx⟩:=list_is (u:=.ref a) S ⟨a,a,h1,rfl⟩ hi
  cases q1
  have hit':s.heap.IsListIter I a k:=⟨oI,gI,h3,h4⟩
  refine oC vs[k]? (λ er=>?_) λ v er=>?_
  ·exact nG (next_list_end (heldOk S) hn hit' hl (by simpa using get_none hx er) λ h' hk=>.end (tk:=s.toks) S hoI hit hm hk (e''.symm.trans er))
  ·obtain⟨x,e1,e2⟩:=hx.get er
   refine nG (wpAny_pyNext_list_item hit' hl (x:=x) (by simpa using e1) λ h' hit'' hs=>?_)
   refine byC λ nG=>?_
   obtain⟨o',ho',hc',hd'⟩:=hit''
   exact nG (.on (tk:=s.toks) S hoI hit hm hs.extBut ho' (e''.symm.trans er) e2 ⟨a,h1,hc',by simpa using hd'⟩)
 | tup vs=>
  obtain⟨a,xs,⟨h0,hx⟩,h3,h4⟩:=hD
  have e':vs[k]? = r:=Option.some.inj e
  have ht:=tupIn_is fx S h0
  have hit':s.heap.IsTupleIter I a k:=⟨oI,gI,h3,h4⟩
  refine oC vs[k]? (λ er=>?_) λ v er=>?_
  ·exact nG (next_tuple_end (heldOk S) hn hit' ht (by simpa using get_none hx er) λ h' hk=>.end (tk:=s.toks) S hoI hit hm hk (e'.symm.trans er))
  ·obtain⟨x,e1,e2⟩:=hx.get er
   refine nG (wpAny_pyNext_tuple_item hit' ht (x:=x) (by simpa using e1) λ h' hit'' hs=>?_)
   refine byC λ nG=>?_
   obtain⟨o',ho',hc',hd'⟩:=hit''
   exact nG (.on (tk:=s.toks) S hoI hit hm hs.extBut ho' (e'.symm.trans er) e2 ⟨a,xs,⟨h0,hx⟩,hc',by simpa using hd'⟩)
 | rng n=>
  have hit':IsRangeIter s.heap I (k:Int) (max n 0-k) 1:=gI.trans (congrArg some hD)
  have e':(if(k:Int)<n then some (V.int k) else none)=r:=Option.some.inj e
  by_cases hk:(k:Int)<n
  ·rw [if_pos hk] at e'
   refine nG (wpAny_pyNext_range_item hit' (Int.sub_pos_of_lt (Int.lt_of_lt_of_le hk (Int.le_max_left _ _))) λ h' hit'' hs=>?_)
   refine .on (tk:=s.toks+1) S hoI hit hm hs.extBut hit'' e'.symm vr_int ?_
   have e1:((k+1:Nat):Int)=(k:Int)+1:=rfl
   have e2:max n 0-((k+1:Nat):Int)=max n 0-k-1:=(Int.sub_sub (max n 0) k 1).symm
   show _=({cls:=_,dict:=none,data:=.fields #[rawInt (((k+1:Nat):Int)),rawInt (max n 0-((k+1:Nat):Int)),rawInt 1],slots:=#[]}:Obj)
   rw [e2,e1]
  ·rw [if_neg hk] at e'
   exact nG (next_range_end (heldOk S) hit' (by omega) λ h' hk=>.end (tk:=s.toks) S hoI hit hm hk e'.symm)
 | byt b=>
  obtain⟨t,h3,h4⟩:=hD
  have hit':KBw.IsBytesIter s.heap I b t k:=⟨oI,gI,h3,h4⟩
  have e':(b[k]?.map λ c=>V.int (c.toNat:Int))=r:=Option.some.inj e
  refine oC b[k]? (λ er=>?_) λ ch er=>?_
  ·rw [er] at e'
   exact nG (next_bytes_end (heldOk S) hn hit' er λ h' hk=>.end (tk:=s.toks) S hoI hit hm hk e'.symm)
  ·rw [er] at e'
   refine nG (KBw.next_item hit' er λ h' hit'' hs=>?_)
   refine byC λ nG=>?_
   obtain⟨o',ho',hc',hd'⟩:=hit''
   exact nG (.on (tk:=s.toks+1) S hoI hit hm hs.extBut ho' e'.symm vr_int ⟨t,hc',by simpa using hd'⟩)
inductive IterPost(g:G0)(c:Cx)(m:PySem.Str→Option Value)(φ:Ph)(nw:Nw)(P:Src→Hp→Prop)(H:Hp)(s:Shared)(q:Value)(s':Shared):Prop
 | mk (I:Addr) (o:Obj) (src:Src) (q:q = .ref I) (S:St g c m φ ((I,o)::nw) H s') (it:IterOk g.K src 0 φ ((I,o)::nw) I) (ne:∀ p∈nw,p.1≠I) (im:I∉mutA φ) (p:P src H) (k:Upto s s')
theorem iter_sound{v:V}{u:Value}{P:Src→Hp→Prop}{X:Addr→Hp→Prop}(fx:Fx g c)(S:St g c m φ nw H s)(hv:VR g.K φ nw v u)(h:Run (toSrc v H) P X) :
  wpAny (model g.prog g.w) A (pyIter u) (IterPost g c m φ nw P H s) E s:=by
 have fr:=fresh_size S
 have nm:s.heap.objs.size∉mutA φ:=not_mut S fr
 have add:∀{o:Obj}{tk:Nat},o.isFreed=false→St g c m φ ((s.heap.objs.size,o)::nw) H {s with heap:=s.heap.push o,toks:=tk}:=λ{o tk} hf=>
  S.more (S.F.push _) (S.N.push S.F o hf) λ _ h=>.tail _ h
 have sub:∀{o:Obj},ExtS φ nw φ ((s.heap.objs.size,o)::nw):=λ{o}=>(ext_sub λ _ h=>.tail _ h).s
 cases v with
 | ref i=>
  refine byC λ nG=>?_
  obtain⟨o,ho,h1⟩:=run_getO (i:=i) h
  obtain⟨xs,rfl,h2⟩:=onL_is h1
  obtain⟨a,us,ob,rfl,h1,_,hl,hx⟩:=list_is S hv ho
  exact nG (wpAny_pyIter_list hl ⟨_,_,.lst i,rfl,add (tk:=s.toks) rfl,⟨_,.head _,a,h1,rfl,rfl⟩,fr,nm,h2,⟨_,_,rfl⟩⟩)
 | tup vs=>
  refine byC λ nG=>?_
  obtain⟨a,xs,rfl,ht,hx⟩:=Eq.mp vr_tup hv
  exact nG (wpAny_pyIter_tuple (tupIn_is fx S ht) ⟨_,_,.tup vs,rfl,add (tk:=s.toks) rfl,⟨_,.head _,a,xs,⟨ht.mono sub,VRs.mono sub _ _ hx⟩,rfl,rfl⟩,fr,nm,h,⟨_,_,rfl⟩⟩)
 | rng n=>
  refine byC λ nG=>?_
  obtain⟨a,rfl,t,uu,w,h1,h2⟩:=hv
  obtain⟨hn,h⟩:=rIf h
  refine nG (wpAny_pyIter_range (S.N _ h1).1 (small_one (by decide) (by decide) (by omega) (by omega)) ?_)
  refine⟨_,_,.rng n,rfl,add (tk:=s.toks) rfl,⟨_,.head _,?_⟩,fr,nm,h,⟨_,_,rfl⟩⟩
  rw [rangeSize_one]
  have e1:(if 0<n then n-0 else 0)  = max n 0-((0:Nat):Int):=by
   by_cases q:0<n
   ·rw [if_pos q];exact congrArg (· - (0:Int)) (Int.max_eq_left (Int.le_of_lt q)).symm
   ·rw [if_neg q];exact(congrArg (· - (0:Int)) (Int.max_eq_right (Int.not_lt.mp q))).symm
  rw [e1]
  rfl
 | byt b=>
  refine Exists.elim hv λ t q=>?_
  subst q
  exact KBw.pyIter_bytes ⟨_,_,.byt b,rfl,add (tk:=s.toks) rfl,⟨_,.head _,t,rfl,rfl⟩,fr,nm,h,⟨_,_,rfl⟩⟩
 | _=>exact h.elim
end
end VS.Internal
end
section
open PySem PySem.W PyProof.Rows PySem.SeqAt
set_option backward.match.sparseCases false
set_option maxRecDepth 100000
namespace VS.Internal
noncomputable def heldA(A:Around):List Addr:=(A.handled.bind vRef).toList
theorem heldA_is{A:Around}{e:Addr}(h:e∈heldA A):A.handled=some (.ref e):=
 bind_is (Option.mem_toList.mp h) λ v q k=>vRef_is k▸q
theorem HeldOk.keep{A:Around}{h h':Heap}(x:HeldOk A h)(k:∀ b∈heldA A,∀ o,h.get? b=some o→h'.get? b=some o):HeldOk A h':=by
 rcases x with h | ⟨e,o,vs,h1,h2,h3⟩
 ·exact .inl h
 ·exact .inr ⟨e,o,vs,h1,k e (by unfold heldA;rw [h1];exact .head _) _ h2,h3⟩
theorem walk_list{prog:Program}{w:World}{A:Around}(I ax:Addr)(hne:ax≠I)(hni:∀ e,A.handled=some (.ref e)→e≠I)(items:Array Value) :
  Walks prog w A I ([I,ax]++heldA A) [I] items.size (λ i v=>items[i]? = some v) (λ i h=>h.IsListIter I ax i∧h.IsList ax items∧HeldOk A h) where
 sub:=λ b hb=>by simp at hb;simp [hb]
 frame:=λ _ _ _ st hk=>⟨st.1.at λ o e=>hk I (by simp) o e,st.2.1.at λ o e=>hk ax (by simp) o e,st.2.2.keep λ b hb o e=>hk b (List.mem_append_right _ hb) o e⟩
 item:=λ i s Q E hi st hQ=>by
  refine wpAny_pyNext_list_item st.1 st.2.1 (x:=items[i]) (by simp [hi]) λ h' hit' hs'=>?_
  exact hQ _ h' s.toks (by simp [hi]) ⟨hit',st.2.1.extBut hs'.extBut hne,st.2.2.but hni hs'.extBut⟩ λ b o hb e=>hs'.extBut b o (λ h=>hb (by simp [h])) e
 done:=λ s Q E st hQ=>next_list_end st.2.2 hni st.1 st.2.1 (by simp) λ h' he'=>hQ h' s.toks λ b o hb e=>he' b o (λ h=>hb (by simp [h])) e
 self:=λ _ _ _ _ st hQ=>wpAny_pyIter_listiter st.1 hQ
theorem walk_tuple{prog:Program}{w:World}{A:Around}(I ax:Addr)(hne:ax≠I)(hni:∀ e,A.handled=some (.ref e)→e≠I)(items:Array Value) :
  Walks prog w A I ([I,ax]++heldA A) [I] items.size (λ i v=>items[i]? = some v) (λ i h=>h.IsTupleIter I ax i∧h.IsTuple ax items∧HeldOk A h) where
 sub:=λ b hb=>by simp at hb;simp [hb]
 frame:=λ _ _ _ st hk=>⟨st.1.at λ o e=>hk I (by simp) o e,st.2.1.at λ o e=>hk ax (by simp) o e,st.2.2.keep λ b hb o e=>hk b (List.mem_append_right _ hb) o e⟩
 item:=λ i s Q E hi st hQ=>by
  refine wpAny_pyNext_tuple_item st.1 st.2.1 (x:=items[i]) (by simp [hi]) λ h' hit' hs'=>?_
  exact hQ _ h' s.toks (by simp [hi]) ⟨hit',st.2.1.extBut hs'.extBut hne,st.2.2.but hni hs'.extBut⟩ λ b o hb e=>hs'.extBut b o (λ h=>hb (by simp [h])) e
 done:=λ s Q E st hQ=>next_tuple_end st.2.2 hni st.1 st.2.1 (by simp) λ h' he'=>hQ h' s.toks λ b o hb e=>he' b o (λ h=>hb (by simp [h])) e
 self:=λ _ _ _ _ st hQ=>wpAny_pyIter_tupleiter st.1 hQ
theorem walk_bytes{prog:Program}{w:World}{A:Around}(I:Addr)(b:Array UInt8)(t:Tok)(hni:∀ e,A.handled=some (.ref e)→e≠I) :
  Walks prog w A I ([I]++heldA A) [I] b.size (λ i v=>∃ c u,b[i]? = some c∧v = .int (c.toNat:Int) u) (λ i h=>KBw.IsBytesIter h I b t i∧HeldOk A h) where
 sub:=λ _ hb=>List.mem_append_left _ hb
 frame:=λ _ _ _ st hk=>⟨st.1.imp λ o q=>⟨hk I (by simp) o q.1,q.2⟩,st.2.keep λ b hb o e=>hk b (List.mem_append_right _ hb) o e⟩
 item:=λ i s Q E hi st hQ=>by
  refine KBw.next_item st.1 (c:=b[i]) (by simp [hi]) λ h' hit' hs'=>?_
  exact hQ _ h' (s.toks+1) ⟨_,_,by simp [hi],rfl⟩ ⟨hit',st.2.but hni hs'.extBut⟩ λ b o hb e=>hs'.extBut b o (λ h=>hb (by simp [h])) e
 done:=λ s Q E st hQ=>next_bytes_end st.2 hni st.1 (by simp) λ h' he'=>hQ h' s.toks λ b o hb e=>he' b o (λ h=>hb (by simp [h])) e
 self:=λ _ _ _ _ st hQ=>KBw.pyIter_self st.1 hQ
theorem bytes_len:typeLookup (.type "bytes") "__len__" = pure (some (.builtin "bytes.__len__")):=by rw [typeLookup_type,builtinLookup_eq_fast];kernel_rfl
theorem bytes_bytes:typeLookup (.type "bytes") "__bytes__" = pure (some (.builtin "bytes.__bytes__")):=by rw [typeLookup_type,builtinLookup_eq_fast];kernel_rfl
section
variable{prog:Program}{w:World}{A:Around}{E:Value→Shared→Prop}{s:Shared}
theorem bytes_new{b:Array UInt8}{t:Tok}{Q:Value→Shared→Prop}(hQ:Q (.bytes b t) s) :
  codeAny (model prog w) A (.call (.builtin "bytes.__new__") ⟨[.type "bytes",.bytes b t],[]⟩) (wants Q E) s:=by
 refine codeAny_of_tree ?_
 refine wpAny_bind (wpAny_of_eq (F.bm_newCall _) (wpAny_pure ⟨plainId_quiet F.bm_plain _,codeAny_builtin F.bm_entry ?_⟩))
 have hT:s.TypeIs (.bytes b t) "bytes":=rfl
 unfold Builtin.«bytes.__new__»
 refine wpAny_bind (wpAny_of_eq (a:=true) rfl ?_)
 refine bm_if_false rfl ?_
 refine wpAny_bind (wpAny_of_eq F.bm_sub ?_)
 refine bm_if_false rfl ?_
 refine wpAny_bind (wpAny_of_eq (F.bm_bind _) ?_)
 refine wpAny_bind (wpAny_of_eq (a:=()) rfl ?_)
 refine wpAny_bind (wpAny_of_eq (a:=()) rfl ?_)
 refine bm_if_false rfl ?_
 refine wpAny_bind (wpAny_specialOf hT bytes_bytes ?_)
 refine wpAny_bind (wpAny_rule ?_)
 refine wpAny_bind (wpAny_typeOf hT ?_)
 refine bm_if_true (by decide) ?_
 first
  | exact wpAny_pure hQ
  | exact wpAny_bind (wpAny_pure (wpAny_pure hQ))
theorem call_bytes{b:Array UInt8}{t:Tok}{Q:Value→Shared→Prop}(hQ:Q (.bytes b t) s):wpAny (model prog w) A (call (.type "bytes") [.bytes b t]) Q E s:=by
 refine callType_codes (Q₁:=λ obj s₁=>s₁.TypeIs obj "bytes"∧Q obj s₁) F.bm_called (F.bm_typeCall _) F.entry_object_init (bytes_new ⟨rfl,hQ⟩) λ obj s₁ h₁=>?_
 exact⟨h₁.1,F.args_object_init_2 obj _,object_init_meets F.bm_called.init.lookup F.bm_called.made (by decide) prog w A.in1 _ s₁ ⟨h₁.1,rfl,h₁.2⟩⟩
theorem collect_bytes{Q:List Value→Shared→Prop}(HO:HeldOk A s.heap)(b:Array UInt8)(t:Tok)
  (hQ:∀ s' acc,(∀ a o,s.heap.get? a=some o→s'.heap.get? a=some o)→s'.gens=s.gens→s'.drawn=s.drawn→s'.os=s.os→ItemsOf (λ i v=>∃ c u,b[i]? = some c∧v = .int (c.toNat:Int) u) acc b.size→Q acc.toList s') (hn:b.size≤sizeLine) :
  wpAny (model prog w) A (collect (.bytes b t)) Q E s:=by
 unfold collect
 refine wpAny_bind (wpAny_runValue (codeAny_builtin F.entry_proto_collect ?_))
 dsimp only [Around.under_plainId F.plain_proto_collect _]
 show wpAny _ A.in1 (newList [] >>= λ l=>again (.builtin "list.__iadd__" ⟨[l,.bytes b t],[]⟩)) _ _ s
 refine wpAny_bind (wpAny_newObj_type ?_)
 refine wpAny_pure ⟨plainId_quiet F.plain_list_iadd _,codeAny_builtin F.entry_list_iadd ?_⟩
 dsimp only [Around.under_plainId F.plain_list_iadd _]
 show wpAny _ A.in1 (Builtin.List.listExtendWith (.ref s.heap.objs.size) (.bytes b t) (.ref s.heap.objs.size)) _ _ _
 refine wpAny_bind (wpAny_typeOf (T:="bytes") (v:=.bytes b t) rfl ?_)
 have h1:Builtin.List.listSameRef (.ref s.heap.objs.size) (.bytes b t)=false:=rfl
 have h2:(Value.type "bytes" == Value.type "list")=false:=by decide
 have h3:(Value.type "bytes" == Value.type "tuple")=false:=by decide
 dsimp only [h1,h2,h3,Bool.or_false,Bool.false_eq_true,if_false]
 generalize hH:s.heap.push {cls:=.type "list",data:=.seq ([]:List Value).toArray}=H
 have hHs:H.objs.size=s.heap.objs.size+1:=by rw [←hH,Heap.size_push]
 have hHk:∀ a o,s.heap.get? a=some o→H.get? a=some o:=λ a o e=>hH▸Heap.get?_push_of_some _ e
 refine wpAny_bind (KBw.pyIter_bytes ?_)
 refine wpAny_bind (wpAny_holding ?_)
 refine wpAny_bind (wpAny_specialOf (T:="bytes") (v:=.bytes b t) rfl bytes_len ?_)
 wp_delta
 refine wpAny_bind (wpAny_isInstance (T:="bytes") (v:=.bytes b t) (b:=true) rfl (by rw [isSubtype_type];kernel_rfl) ?_)
 refine wpAny_bind (wpAny_typeOf (T:="bytes") (v:=.bytes b t) rfl ?_)
 refine wpAny_pure ?_
 have hne:∀ e,A.in1.handled=some (.ref e)→e<s.heap.objs.size:=λ e he=>by
  rcases HO with h | ⟨e',o,vs,h1,h2,_⟩
  ·have:A.in1.handled=none:=h;rw [this] at he;exact no_some he
  ·have:A.in1.handled=some (.ref e'):=h1
   rw [this] at he;cases he;exact Heap.lt_size h2
 have hni:∀ e,A.in1.handled=some (.ref e)→e≠H.objs.size:=λ e he q=>by
  have:=hne e he
  rw [q,hHs] at this
  exact absurd this (Nat.not_lt.mpr (Nat.le_succ _))
 have W:=walk_bytes (prog:=prog) (w:=w) (A:=A.in1) H.objs.size b t hni
 have hSf:s.heap.objs.size∉[H.objs.size]++heldA A.in1:=λ hm=>by
  rcases List.mem_append.mp hm with hm | hm
  ·rw [List.mem_singleton.mp hm] at hHs;exact absurd hHs (Nat.ne_of_lt (Nat.lt_succ_self _))
  ·exact absurd (hne _ (heldA_is hm)) (Nat.lt_irrefl _)
 have hS:(H.push {cls:=.type "bytes_iterator",data:=.fields #[.bytes b t,.int 0 0]}).get? s.heap.objs.size=some {cls:=.type "list",data:=.seq ([]:List Value).toArray}:=Heap.get?_push_of_some _ (hH▸Heap.get?_push_size _ rfl)
 refine wpAny_pure ⟨plainId_quiet F.plain_extend_loop _,codeAny_extend_loopS W.toS hn _ hSf _ b.size 0 _ _ _ rfl (Nat.zero_le _)
  ⟨⟨_,Heap.get?_push_size _ rfl,rfl,rfl⟩,HO.keeps λ a o e=>Heap.get?_push_of_some _ (hHk a o e)⟩ hS (ItemsOf.nil _) λ s' acc' c' hm hS' hacc=>?_⟩
 refine wpAny_bind (wpAny_load hS' ?_)
 refine wpAny_pure (hQ s' acc' (λ a ob e=>hm.heap a ob (λ hb=>?_) (Heap.get?_push_of_some _ (hHk a ob e))) hm.gens hm.drawn hm.os hacc)
 have hlt:=Heap.lt_size e
 rcases List.mem_cons.mp hb with h | h
 ·exact absurd hlt (h▸Nat.lt_irrefl _)
 ·rw [List.mem_singleton.mp h,hHs] at hlt;exact absurd hlt (Nat.not_lt.mpr (Nat.le_succ _))
end
end VS.Internal
end
section
open PySem PySem.W PyProof.Rows PySem.SeqAt
set_option backward.match.sparseCases false
set_option maxRecDepth 100000
namespace VS.Internal
noncomputable def ByteAt(b:Array UInt8)(i:Nat)(v:Value):Prop:=∃ c u,b[i]? = some c∧v = .int (c.toNat:Int) u
theorem meets_tuple_new_bytes(b:Array UInt8)(t:Tok)(hsz:b.size≤sizeLine) :
  Meets (Builtin.«tuple.__new__» ⟨[.type "tuple",.bytes b t],[]⟩)
   (λ A R s=>HeldOk A s.heap∧∀(s':Shared) (acc:Array Value),(∀ b o,s.heap.get? b=some o→s'.heap.get? b=some o)→s'.gens=s.gens→s'.drawn=s.drawn→s'.os=s.os→ItemsOf (ByteAt b) acc b.size→
    R (.ok (.ret (.ref s'.heap.objs.size))) {s' with heap:=s'.heap.push {cls:=.type "tuple",data:=.seq acc}}):=
 .of_wp λ prog w A R s h=>by
  obtain⟨hh,h⟩:=h
  have hsub:=sub_tuple_self
  have hinit:=init_tuple_lookup
  have hmh:=madeHere_tuple
  have hT:s.TypeIs (.bytes b t) "bytes":=rfl
  have hh1:HeldOk A.in1 s.heap:=hh
  wp_walk using wpAny_typeOf hT,collect_bytes (hn:=hsz) hh1 b t
  intro s' acc hk hg hd hos hacc
  show wpAny _ _ (Builtin.Tuple.tupleExact acc.toList.toArray >>= λ v=>ret v) _ _ _
  refine wpAny_bind (wpAny_newObj_type ?_ (show acc.toList.toArray.size≤sizeLine by simp only [Array.toArray_toList];rw [hacc.1];exact hsz))
  refine wpAny_pure ⟨_,rfl,?_⟩
  have e:acc.toList.toArray=acc:=by rfl
  exact h s' acc hk hg hd hos hacc
section
variable{prog:Program}{w:World}{A:Around}{E:Value→Shared→Prop}{s:Shared}
theorem call_tuple_bytes{Q:Value→Shared→Prop}(HO:HeldOk A s.heap)(b:Array UInt8)(t:Tok)(hsz:b.size≤sizeLine)
  (h:∀(h':Heap) (tk:Nat) (acc:Array Value),(∀ b o,s.heap.get? b=some o→h'.get? b=some o)→ItemsOf (ByteAt b) acc b.size→Q (.ref h'.objs.size) {s with heap:=h'.push {cls:=.type "tuple",data:=.seq acc},toks:=tk}) :
  wpAny (model prog w) A (call (.type "tuple") [.bytes b t]) Q E s:=by
 refine callType_new F.called_tuple (by decide) (F.typeCall_tuple_1 _) (F.newCall_tuple_1 _) (λ obj=>F.args_object_init_2 obj _) F.entry_tuple_new
  (meets_tuple_new_bytes b t hsz) ⟨HO,λ s' acc hk hg hd hos hacc=>⟨⟨_,Heap.get?_push_size _ rfl,rfl⟩,?_⟩⟩
 obtain⟨h',g',d',tk',os'⟩:=s'
 have e1:g'=s.gens:=hg
 have e2:d'=s.drawn:=hd
 have e3:os'=s.os:=hos
 subst e1 e2 e3
 exact h h' tk' acc hk hacc
theorem isinst{K:Frag}{x:Value}{T:String}{c:Value}{b:Bool}{Q:Value→Shared→Prop}(Z:KitX K x (.type T) (λ _=>True))(X:K.In s.heap)(e:kitOne K (.type T) c=some b)(hx:x≠.builtin "__main__.__loader__#opaque") (h:∀ tk,Q (.bool b) {s with toks:=tk}) :
  wpAny (model prog w) A (call (.builtin "isinstance") [x,c]) Q E s:=kia_one Z X trivial e hx h
end
theorem kit_int_int(K:Frag):kitOne K (.type "int") (.type "int")=some true:=by kernel_rfl
theorem kit_int_bool(K:Frag):kitOne K (.type "int") (.type "bool")=some false:=by kernel_rfl
theorem kit_none_int(K:Frag):kitOne K (.type "NoneType") (.type "int")=some false:=by kernel_rfl
theorem argBest_le{val:Nat→Int}{lt:Int→Int→Bool}{le:Int→Int→Prop}(rf:∀ a,le a a)(tr:∀ a b c,le a b→le b c→le a c)(h1:∀ a b,lt a b=true→le b a)(h2:∀ a b,lt a b=false→le a b)(k:Nat) :
  argBest (λ i j=>lt (val i) (val j)) k≤k∧∀ i≤k,le (val i) (val (argBest (λ i j=>lt (val i) (val j)) k)):=by
 induction k with
 | zero=>exact⟨Nat.le_refl _,λ i hi=>by rw [Nat.le_zero.mp hi];exact rf _⟩
 | succ k ih=>
  simp only [argBest]
  refine bC (lt (val (k+1)) (val (argBest (λ i j=>lt (val i) (val j)) k))) (λ q=>?_) λ q=>?_
  ·rw [if_pos q]
   exact⟨Nat.le_refl _,λ i hi=>(Nat.lt_or_ge i (k+1)).elim (λ hl=>tr _ _ _ (ih.2 i (Nat.le_of_lt_succ hl)) (h1 _ _ q)) λ hg=>Nat.le_antisymm hi hg▸rf _⟩
  ·rw [if_neg (ne_true_of_eq_false q)]
   exact⟨Nat.le_succ_of_le ih.1,λ i hi=>(Nat.lt_or_ge i (k+1)).elim (λ hl=>ih.2 i (Nat.le_of_lt_succ hl)) λ hg=>Nat.le_antisymm hi hg▸h2 _ _ q⟩
theorem getD_mem{ns:List Int}{i:Nat}(h:i<ns.length):ns.getD i 0∈ns:=by
 rw [List.getD_eq_getElem?_getD,List.getElem?_eq_getElem h]
 exact List.getElem_mem _
theorem best_val{ns:List Int}{lt:Int→Int→Bool}{le:Int→Int→Prop}{r:Int}(rf:∀ a,le a a)(tr:∀ a b c,le a b→le b c→le a c)(h1:∀ a b,lt a b=true→le b a)(h2:∀ a b,lt a b=false→le a b)(an:∀ a b,le a b→le b a→a=b)
  (hr:r∈ns) (hl:∀ b∈ns,le b r):ns.getD (argBest (λ i j=>lt (ns.getD i 0) (ns.getD j 0)) (ns.length-1)) 0=r:=by
 have h0:0<ns.length:=List.length_pos_of_mem hr
 have q:=argBest_le (val:=λ i=>ns.getD i 0) rf tr h1 h2 (ns.length-1)
 refine an _ _ (hl _ (getD_mem (Nat.lt_of_le_of_lt q.1 (Nat.sub_lt h0 Nat.one_pos)))) ?_
 refine(List.mem_iff_getElem.mp hr).elim λ j h=>h.elim λ hj e=>?_
 have:=q.2 j (Nat.le_pred_of_lt hj)
 rw [List.getD_eq_getElem?_getD (i:=j),List.getElem?_eq_getElem hj] at this
 exact e▸this
theorem best_max{ns:List Int}{r:Int}(h:ns.max? = some r):ns.getD (argBest (λ i j=>decide (ns.getD j 0<ns.getD i 0)) (ns.length-1)) 0=r:=
 have q:=List.max?_eq_some_iff.mp h
 best_val (lt:=λ a b=>decide (b<a)) (le:=(·≤·)) Int.le_refl (λ _ _ _=>Int.le_trans) (λ _ _ h=>Int.le_of_lt (of_decide_eq_true h)) (λ _ _ h=>Int.not_lt.mp (of_decide_eq_false h)) (λ _ _=>Int.le_antisymm) q.1 q.2
theorem best_min{ns:List Int}{r:Int}(h:ns.min? = some r):ns.getD (argBest (λ i j=>decide (ns.getD i 0<ns.getD j 0)) (ns.length-1)) 0=r:=
 have q:=List.min?_eq_some_iff.mp h
 best_val (lt:=λ a b=>decide (a<b)) (le:=(·≥·)) Int.le_refl (λ _ _ _ h k=>Int.le_trans k h) (λ _ _ h=>Int.le_of_lt (of_decide_eq_true h)) (λ _ _ h=>Int.not_lt.mp (of_decide_eq_false h)) (λ _ _ h k=>Int.le_antisymm k h) q.1 q.2
theorem ints_at:∀{xs:List Value}{ns:List Int}{i:Nat}{v:Value},IntsAre xs ns→xs[i]? = some v→∃ t,v = .int (ns.getD i 0) t:=by
 intro xs ns i v h
 induction h generalizing i with
 | nil=>exact λ e=>nomatch e
 | cons n t _ ih=>
  intro e
  cases i with
  | zero=>exact⟨t,(Option.some.inj e).symm⟩
  | succ i=>exact ih (i:=i) e
theorem preSum_list:∀(ns:List Int),preSum (λ i=>ns.getD i 0) ns.length=ns.sum:=λ ns=>by
 simp only [KBmo.pre_take ns _ (Nat.le_refl _),List.take_length]
section
variable{g:G0}{c:Cx}{m:PySem.Str→Option Value}{φ:Ph}{nw:Nw}{H:Hp}{s:Shared}{A:Around}{E:Value→Shared→Prop}
theorem PostE.grown{P:V→Hp→Prop}{v:V}{u:Value}{h':Heap}{tk:Nat}(S:St g c m φ nw H s)(hk:∀ b o,s.heap.get? b=some o→h'.get? b=some o)(hv:VR g.K φ nw v u)(hP:P v H) :
  PostE g c m φ nw P s u {s with heap:=h',toks:=tk}:=
 .of (S.more (S.F.keeps hk) (S.N.grown hk) λ _ h=>h) (.refl _ _) hv hP ⟨_,_,rfl⟩
theorem held_lt(S:St g c m φ nw H s):∀ e,c.A.handled=some (.ref e)→e<s.heap.objs.size:=λ e he=>by
 rcases S.ho with h | ⟨e',oe,vs,C,h1,h2,_⟩
 ·rw [h] at he;exact no_some he
 ·rw [h1] at he;cases he
  exact Heap.lt_size (S.N _ h2).1
theorem heldA_lt(S:St g c m φ nw H s):∀ b∈heldA c.A,b<s.heap.objs.size:=λ b hb=>by
 exact held_lt S b (heldA_is hb)
theorem cmpOf_gt{prog:Program}{w:World}{A:Around}{items:Array Value}{val:Nat→Int}(h:∀ i v,items[i]? = some v→∃ t,v=Value.int (val i) t):CmpOf prog w A .Gt (λ i v=>items[i]? = some v) (λ i j=>decide (val j<val i)):=λ i j vi vj s Q E hi hj hQ=>by
 obtain⟨t,rfl⟩:=h i vi hi
 obtain⟨t',rfl⟩:=h j vj hj
 exact PyProof.Rows.gt_int (E:=E) hQ
theorem cmpOf_lt{prog:Program}{w:World}{A:Around}{items:Array Value}{val:Nat→Int}(h:∀ i v,items[i]? = some v→∃ t,v=Value.int (val i) t):CmpOf prog w A .Lt (λ i v=>items[i]? = some v) (λ i j=>decide (val i<val j)):=λ i j vi vj s Q E hi hj hQ=>by
 obtain⟨t,rfl⟩:=h i vi hi
 obtain⟨t',rfl⟩:=h j vj hj
 exact PyProof.Rows.lt_int (E:=E) hQ
end
end VS.Internal
end
section
open PySem PySem.W PyProof.Rows PySem.SeqAt
set_option backward.match.sparseCases false
set_option maxRecDepth 100000
namespace VS.Internal
section
variable{g:G0}{c:Cx}{m:PySem.Str→Option Value}{φ:Ph}{nw:Nw}{H:Hp}{s:Shared}{A:Around}{E:Value→Shared→Prop}
theorem vrs1{K:Frag}{v:V}{us:List Value}(h:VRs K φ nw [v] us):∃ u,us=[u]∧VR K φ nw v u:=by
 cases L2.inv h with | mk u r e h1 h2=>cases (h2:r=[]);exact⟨u,e,h1⟩
inductive VP(K:Frag)(φ:Ph)(nw:Nw)(v w:V)(us:List Value):Prop
 | mk (u u':Value) (e:us=[u,u']) (h:VR K φ nw v u) (k:VR K φ nw w u')
theorem vrs2{K:Frag}{v w:V}{us:List Value}(h:VRs K φ nw [v,w] us):VP K φ nw v w us:=by
 cases L2.inv h with | mk u r e h1 h2=>
 exact(vrs1 h2).elim λ u' q=>⟨u,u',e.trans (congrArg _ q.1),h1,q.2⟩
theorem held_ne'(S:St g c m φ nw H s){I:Addr}(h:s.heap.objs.size≤I):∀ e,c.A.in1.handled=some (.ref e)→e≠I:=λ e he q=>by
 have:=held_lt S e he
 rw [q] at this
 exact absurd this (Nat.not_lt.mpr h)
theorem ex7{A B C D E F G:Type}{P:A→B→C→D→E→F→G→Prop}(a:A)(b:B)(c:C)(d:D)(e:E)(f:F)(g:G)(h:P a b c d e f g):∃ a b c d e f g,P a b c d e f g:=⟨a,b,c,d,e,f,g,h⟩
theorem walk_of_list{a:Addr}{xs:List Value}(S:St g c m φ nw H s)(hl:s.heap.IsList a xs.toArray){Q:Value→Shared→Prop}
  (hQ:∀ I,a≠I→I=s.heap.objs.size→Walks g.prog g.w c.A.in1 I ([I,a]++heldA c.A.in1) [I] xs.toArray.size (λ i v=>xs.toArray[i]? = some v) (λ i h=>h.IsListIter I a i∧h.IsList a xs.toArray∧HeldOk c.A.in1 h)→
   ∀ h',h'=s.heap.push {cls:=.type "list_iterator",data:=.fields #[.ref a,.int 0 0]}→(h'.IsListIter I a 0∧h'.IsList a xs.toArray∧HeldOk c.A.in1 h')→(∀ b∈[I,a]++heldA c.A.in1,b<h'.objs.size)→
   (∀ h'':Heap,(∀ b o,b∉[I]→h'.get? b=some o→h''.get? b=some o)→∀ b o,s.heap.get? b=some o→h''.get? b=some o)→Q (.ref I) {s with heap:=h'}) :
  wpAny (model g.prog g.w) c.A.in1 (pyIter (.ref a)) Q E s:=by
 refine wpAny_pyIter_list hl ?_
 have hlt:a<s.heap.objs.size:=let ⟨o,ho,_⟩:=hl;Heap.lt_size ho
 refine hQ s.heap.objs.size (Nat.ne_of_lt hlt) rfl (walk_list _ a (Nat.ne_of_lt hlt) (held_ne' S (Nat.le_refl _)) _) _ rfl ⟨⟨_,Heap.get?_push_size _ rfl,rfl,rfl⟩,hl.push _,(heldOk S).keeps λ b o e=>Heap.get?_push_of_some _ e⟩ (λ b hb=>?_) λ h'' hk b o e=>?_
 ·rw [Heap.size_push]
  rcases List.mem_append.mp hb with hb | hb
  ·rcases List.mem_cons.mp hb with rfl | hb
   ·exact Nat.lt_succ_self _
   ·rw [List.mem_singleton.mp hb];exact Nat.lt_succ_of_lt hlt
  ·exact Nat.lt_succ_of_lt (heldA_lt S b hb)
 ·exact hk b o (λ q=>by rw [List.mem_singleton.mp q] at e;exact absurd (Heap.lt_size e) (Nat.lt_irrefl _)) (Heap.get?_push_of_some _ e)
theorem two_arg{a b:Value}{op:CmpOp}{bt:Nat→Nat→Bool}{Q:Value→Shared→Prop}(S:St g c m φ nw H s)(hcmp:CmpOf g.prog g.w c.A.in1 op (λ i v=>(#[a,b]:Array Value)[i]? = some v) bt)
  (hQ:∀ v (h':Heap) tk,(#[a,b]:Array Value)[argBest bt 1]? = some v→(∀ b o,s.heap.get? b=some o→h'.get? b=some o)→Q v {s with heap:=h',toks:=tk}) :
  wpAny (model g.prog g.w) c.A.in1 (pyIter (.ref s.heap.objs.size)) (λ it s₂=>∃ I fp wr n P St bt,it = .ref I∧Walks g.prog g.w c.A.in1 I fp wr n P St∧St 0 s₂.heap∧(∀ b∈fp,b<s₂.heap.objs.size)∧0<n∧CmpOf g.prog g.w c.A.in1 op P bt∧
   ∀ v h' tk,P (argBest bt (n-1)) v→(∀ b o,b∉wr→s₂.heap.get? b=some o→h'.get? b=some o)→Q v {s₂ with heap:=h',toks:=tk}) E {s with heap:=s.heap.push {cls:=.type "tuple",data:=.seq #[a,b]}}:=by
 have ht:(s.heap.push {cls:=.type "tuple",data:=.seq #[a,b]}).IsTuple s.heap.objs.size #[a,b]:=⟨_,Heap.get?_push_size _ rfl,rfl,_,rfl⟩
 refine wpAny_pyIter_tuple (s:={s with heap:=s.heap.push {cls:=.type "tuple",data:=.seq #[a,b]}}) ht ?_
 have hs1:(s.heap.push {cls:=.type "tuple",data:=.seq #[a,b]}).objs.size=s.heap.objs.size+1:=Heap.size_push _ _
 have hne:s.heap.objs.size≠(s.heap.push {cls:=.type "tuple",data:=.seq #[a,b]}).objs.size:=by simp only [hs1];exact Nat.ne_of_lt (Nat.lt_succ_self _)
 refine⟨_,_,_,2,_,_,bt,rfl,walk_tuple _ s.heap.objs.size hne (held_ne' S (by simp only [hs1];exact Nat.le_succ _)) #[a,b],
  ⟨⟨_,Heap.get?_push_size _ rfl,rfl,rfl⟩,ht.push _,(heldOk S).keeps λ b o e=>Heap.get?_push_of_some _ (Heap.get?_push_of_some _ e)⟩,λ b hb=>?_,by decide,hcmp,λ v h' tk hv hk=>?_⟩
 ·rw [Heap.size_push,hs1]
  rcases List.mem_append.mp hb with hb | hb
  ·rcases List.mem_cons.mp hb with rfl | hb
   ·rw [hs1];exact Nat.lt_succ_self _
   ·rw [List.mem_singleton.mp hb];exact Nat.lt_succ_of_lt (Nat.lt_succ_self _)
  ·exact Nat.lt_succ_of_lt (Nat.lt_succ_of_lt (heldA_lt S b hb))
 ·refine hQ v h' tk hv λ b o e=>hk b o (λ q=>?_) (Heap.get?_push_of_some _ (Heap.get?_push_of_some _ e))
  have:=Heap.lt_size e
  rw [List.mem_singleton.mp q,hs1] at this
  exact absurd this (Nat.not_lt.mpr (Nat.le_succ _))
theorem two_at{x y:Int}{t t':Tok}(i:Nat)(v:Value)(h:(#[Value.int x t,Value.int y t']:Array Value)[i]? = some v):∃ u,v=Value.int (if i=0 then x else y) u:=by
 rcases i with _ | _ | i
 ·exact⟨t,(Option.some.inj h).symm⟩
 ·exact⟨t',(Option.some.inj h).symm⟩
 ·exact no_some (h:none=some v)
theorem max_two_sound{x y:Int}{t t':Tok}{P:V→Hp→Prop}(S:St g c m φ nw H s)(hP:P (.int (max x y)) H) :
  wpAny (model g.prog g.w) c.A (call (.builtin "max") [.int x t,.int y t']) (PostE g c m φ nw P s) E s:=by
 refine call_max_two (two_arg S (cmpOf_gt (val:=λ i=>if i=0 then x else y) two_at) λ v h' tk hv hk=>?_)
 obtain⟨u,rfl⟩:=two_at _ _ hv
 have e:(if argBest (λ i j=>decide ((λ i=>if i=0 then x else y) j<(λ i=>if i=0 then x else y) i)) 1=0 then x else y)=max x y:=by
  dsimp only [argBest]
  by_cases h:x<y
  ·simp [h];exact(Int.max_eq_right (Int.le_of_lt h)).symm
  ·simp [h];exact(Int.max_eq_left (Int.not_lt.mp h)).symm
 simp only [e]
 exact PostE.grown S hk vr_int hP
theorem min_two_sound{x y:Int}{t t':Tok}{P:V→Hp→Prop}(S:St g c m φ nw H s)(hP:P (.int (min x y)) H) :
  wpAny (model g.prog g.w) c.A (call (.builtin "min") [.int x t,.int y t']) (PostE g c m φ nw P s) E s:=by
 refine call_min_two (two_arg S (cmpOf_lt (val:=λ i=>if i=0 then x else y) two_at) λ v h' tk hv hk=>?_)
 obtain⟨u,rfl⟩:=two_at _ _ hv
 have e:(if argBest (λ i j=>decide ((λ i=>if i=0 then x else y) i<(λ i=>if i=0 then x else y) j)) 1=0 then x else y)=min x y:=by
  dsimp only [argBest]
  by_cases h:y<x
  ·simp [h];exact(Int.min_eq_right (Int.le_of_lt h)).symm
  ·simp [h];exact(Int.min_eq_left (Int.not_lt.mp h)).symm
 simp only [e]
 exact PostE.grown S hk vr_int hP
theorem max_list_sound{a:Addr}{xs:List Value}{vs:List V}{r:Int}{P:V→Hp→Prop}(S:St g c m φ nw H s)(hl:s.heap.IsList a xs.toArray)(hx:VRs g.K φ nw vs xs)(e:maxI vs=some r)(hP:P (.int r) H) :
  wpAny (model g.prog g.w) c.A (call (.builtin "max") [.ref a]) (PostE g c m φ nw P s) E s:=by
 refine bind_is e λ ns e1 e2=>?_
 have hi:=intsV_is hx e1
 have hsz:xs.toArray.size=ns.length:=hi.length
 have h0:0<xs.toArray.size:=hsz▸List.length_pos_of_mem (List.max?_eq_some_iff.mp e2).1
 refine call_max_walk (walk_of_list S hl λ I hne hI W h' hh' st hfp hk=>ex7 I _ _ _ _ _ (λ i j=>decide (ns.getD j 0<ns.getD i 0)) ⟨rfl,W,st,hfp,h0,cmpOf_gt (val:=λ i=>ns.getD i 0) (λ i v hv=>ints_at hi (by simpa using hv)),λ v h'' tk hv hk'=>?_⟩)
 refine(ints_at (i:=argBest (λ i j=>decide (ns.getD j 0<ns.getD i 0)) (xs.toArray.size-1)) hi (by simpa using hv)).elim λ u q=>?_
 rw [hsz,best_max e2] at q
 subst q
 exact PostE.grown S (hk h'' hk') vr_int hP
theorem min_list_sound{a:Addr}{xs:List Value}{vs:List V}{r:Int}{P:V→Hp→Prop}(S:St g c m φ nw H s)(hl:s.heap.IsList a xs.toArray)(hx:VRs g.K φ nw vs xs)(e:minI vs=some r)(hP:P (.int r) H) :
  wpAny (model g.prog g.w) c.A (call (.builtin "min") [.ref a]) (PostE g c m φ nw P s) E s:=by
 refine bind_is e λ ns e1 e2=>?_
 have hi:=intsV_is hx e1
 have hsz:xs.toArray.size=ns.length:=hi.length
 have h0:0<xs.toArray.size:=hsz▸List.length_pos_of_mem (List.min?_eq_some_iff.mp e2).1
 refine call_min_walk (walk_of_list S hl λ I hne hI W h' hh' st hfp hk=>ex7 I _ _ _ _ _ (λ i j=>decide (ns.getD i 0<ns.getD j 0)) ⟨rfl,W,st,hfp,h0,cmpOf_lt (val:=λ i=>ns.getD i 0) (λ i v hv=>ints_at hi (by simpa using hv)),λ v h'' tk hv hk'=>?_⟩)
 refine(ints_at (i:=argBest (λ i j=>decide (ns.getD i 0<ns.getD j 0)) (xs.toArray.size-1)) hi (by simpa using hv)).elim λ u q=>?_
 rw [hsz,best_min e2] at q
 subst q
 exact PostE.grown S (hk h'' hk') vr_int hP
theorem sum_list_sound{a:Addr}{xs:List Value}{vs:List V}{r:Int}{P:V→Hp→Prop}(S:St g c m φ nw H s)(hl:s.heap.IsList a xs.toArray)(hx:VRs g.K φ nw vs xs)(e:sumI vs=some r)(hP:P (.int r) H) :
  wpAny (model g.prog g.w) c.A (call (.builtin "sum") [.ref a]) (PostE g c m φ nw P s) E s:=by
 refine map_is e λ ns e1 e2=>?_
 subst e2
 have hi:=intsV_is hx e1
 have hsz:xs.toArray.size=ns.length:=hi.length
 refine call_sum_walkG (walk_of_list S hl λ I hne hI W h' hh' st hfp hk=>ex7 I _ _ _ _ _ (λ i=>ns.getD i 0) ⟨rfl,W,st,hfp,(λ i v hv=>ints_at hi (by simpa using hv)),λ h'' tk t' hk'=>?_⟩)
 rw [hsz,preSum_list]
 exact PostE.grown S (hk h'' hk') vr_int hP
theorem L2.of_get{α β:Type}{R:α→β→Prop}{l:List α}:∀{xs:List β},xs.length=l.length→(∀(j:Nat) v,xs[j]? = some v→∃ a,l[j]? = some a∧R a v)→L2 R l xs:=by
 induction l with
 | nil=>exact λ h _=>List.eq_nil_of_length_eq_zero h
 | cons a l ih=>
  intro xs h k
  cases xs with
  | nil=>cases h
  | cons v xs=>exact⟨v,xs,rfl,(k 0 v rfl).elim λ b q=>Option.some.inj q.1▸q.2,ih (Nat.succ.inj h) λ j=>k (j+1)⟩
theorem bytes_items{b:Array UInt8}{acc:Array Value}(h:ItemsOf (ByteAt b) acc b.size):VRs g.K φ nw (bytesV b) acc.toList:=
 L2.of_get (by unfold bytesV;simp only [List.length_map];exact h.1) λ j v hv=>(h.2 j v (by simpa using hv)).elim λ ch q=>q.elim λ u q=>⟨.int (ch.toNat:Int),by unfold bytesV;simp [q.1],u,q.2⟩
theorem arg1_is{k:V→M V}{vs:List V}{P:V→Hp→Prop}{X:Addr→Hp→Prop}(h:Run (arg1 k vs H) P X):∃ v,vs=[v]∧Run (k v H) P X:=by
 cases onSome_is h with | mk v e h=>exact⟨v,oneL_is e,h⟩
theorem run_ite{b:Bool}{m n:M V}{P:V→Hp→Prop}{X:Addr→Hp→Prop}{G:Prop}(h:Run ((if b=true then m else n) H) P X)(h1:b=true→Run (m H) P X→G)(h2:Run (n H) P X→G):G:=by
 cases b with
 | true=>exact h1 rfl h
 | false=>exact h2 h
inductive LA(g:G0)(φ:Ph)(nw:Nw)(s:Shared)(H:Hp)(k:List V→M V)(us:List Value)(P:V→Hp→Prop)(X:Addr→Hp→Prop):Prop
 | mk (a:Addr) (vs:List V) (xs:List Value) (e:us=[.ref a]) (hl:s.heap.IsList a xs.toArray) (hx:VRs g.K φ nw vs xs) (hz:vs.length≤1000) (h:Run (k vs H) P X)
theorem lstA_is{k:List V→M V}{vs:List V}{us:List Value}{P:V→Hp→Prop}{X:Addr→Hp→Prop}(S:St g c m φ nw H s)(hv:VRs g.K φ nw vs us)(h:Run (lstA k vs H) P X):LA g φ nw s H k us P X:=by
 refine byC λ nG=>?_
 obtain⟨v,rfl,h⟩:=arg1_is h
 obtain⟨i,rfl,h⟩:=onRef_is h
 obtain⟨u,rfl,hu⟩:=vrs1 hv
 obtain⟨o,ho,h⟩:=run_getO (i:=i) h
 obtain⟨xs,rfl,h'⟩:=onL_is h
 obtain⟨hz,h⟩:=rIf h'
 obtain⟨a,ys,ob,rfl,_,_,hl,hx⟩:=list_is S hu ho
 exact nG ⟨a,xs,ys,rfl,hl,hx,hz,h⟩
theorem b_tuple{vs:List V}{us:List Value}{P:V→Hp→Prop}{X:Addr→Hp→Prop}(fx:Fx g c)(S:St g c m φ nw H s)(hv:VRs g.K φ nw vs us)(h:Run (tupA vs H) P X) :
  wpAny (model g.prog g.w) c.A (call (.type "tuple") us) (PostE g c m φ nw P s) E s:=by
 have lst:Run (lstA (λ xs=>M.pure (.tup xs)) vs H) P X→wpAny (model g.prog g.w) c.A (call (.type "tuple") us) (PostE g c m φ nw P s) E s:=λ h=>by
  obtain⟨a,xs,ys,rfl,hl,hx,hz,h⟩:=lstA_is S hv h
  refine call_tuple_list hl (λ h' hk=>?_) (by simp only [List.size_toArray,hx.length,sizeL];lia)
  have F':=S.F.keeps hk
  have N':=S.N.grown hk
  exact PostE.add (tk:=s.toks) S (F'.push _) (N'.push F' _) (tup_new (n:=0) (not_mut S λ p hp=>Nat.ne_of_lt (Heap.lt_size (N' p hp).1)) (.head _) (hx.mono1 λ _ h=>.tail _ h)) h
 refine byC λ nG=>?_
 obtain⟨v,rfl,h1⟩:=arg1_is h
 obtain⟨u,rfl,hu⟩:=vrs1 hv
 cases v with
 | tup xs=>
  obtain⟨a,xs,rfl,ht,_⟩:=tup_is fx S hu
  exact nG (call_tuple_tup ht (PostE.now S hu h1))
 | byt b=>
  obtain⟨t,rfl⟩:=hu
  obtain⟨hz,hP⟩:=rIf h1
  refine nG (call_tuple_bytes (heldOk S) b t (by simp only [sizeL];lia) λ h' tk acc hk hacc=>?_)
  have F':=S.F.keeps hk
  have N':=S.N.grown hk
  exact PostE.add S (F'.push _) (N'.push F' _) (tup_new (xs:=acc.toList) (n:=0) (not_mut S λ p hp=>Nat.ne_of_lt (Heap.lt_size (N' p hp).1)) (by simp) (bytes_items hacc)) hP
 | _=>exact nG (lst h1)
theorem two_ints{f:Int→Int→Int}{k:List V→Option Int}{vs:List V}{us:List Value}{P:V→Hp→Prop}{X:Addr→Hp→Prop}{G:Prop}(S:St g c m φ nw H s)(hv:VRs g.K φ nw vs us)(h:Run (twoA f k vs H) P X)
  (h2:∀ x t y t',us=[.int x t,.int y t']→P (.int (f x y)) H→G)
  (hl:∀ a ws xs r,us=[.ref a]→s.heap.IsList a xs.toArray→VRs g.K φ nw ws xs→k ws=some r→P (.int r) H→G):G:=by
 have lst:Run (lstA (λ xs=>M.bind (ofO (k xs)) λ r=>M.pure (.int r)) vs H) P X→G:=λ h=>by
  obtain⟨a,ws,xs,e,h1,hx,hz,h⟩:=lstA_is S hv h
  obtain⟨r,er,h⟩:=run_ofO (o:=k ws) h
  exact hl a ws xs r e h1 hx er h
 unfold twoA at h
 refine oC (pairL vs) (λ q=>by rw [q] at h;exact lst h) λ p q=>?_
 rw [q] at h
 refine byC λ nG=>?_
 obtain⟨x,e1,h1⟩:=onInt_is h
 obtain⟨y,e2,h3⟩:=onInt_is h1
 have e:=pairL_is q
 rw [e1,e2] at e
 subst e
 obtain⟨u,u',rfl,hu,hu'⟩:=vrs2 hv
 obtain⟨t,rfl⟩:=int_is hu
 obtain⟨t',rfl⟩:=int_is hu'
 exact nG (h2 x t y t' rfl h3)
theorem sh_bool{vs:List V}{P:V→Hp→Prop}{X:Addr→Hp→Prop}(h:Run (intA vs H) P X):∃ b,vs=[.bool b]:=
 (arg1_is h).elim λ v q=>(onBool_is q.2).elim λ b k=>⟨b,k.1▸q.1⟩
theorem sh_byt{vs:List V}{P:V→Hp→Prop}{X:Addr→Hp→Prop}(h:Run (bytA vs H) P X):∃ b,vs=[.byt b]:=by
 obtain⟨v,rfl,h⟩:=arg1_is h
 revert h
 cases v with
 | byt b=>exact λ _=>⟨b,rfl⟩
 | _=>exact False.elim
theorem sh_int{vs:List V}{f:Int→V}{P:V→Hp→Prop}{X:Addr→Hp→Prop}(h:Run (oneA f vs H) P X):∃ i,vs=[.int i]:=by
 exact(arg1_is h).elim λ v q=>(onInt_is q.2).elim λ i k=>⟨i,k.1▸q.1⟩
theorem sh_isi{vs:List V}{P:V→Hp→Prop}{X:Addr→Hp→Prop}(h:Run (isiA vs H) P X):∃ v t,vs=[v,.sta t]∧(v = .none∨∃ i,v = .int i):=by
 refine byC λ nG=>?_
 obtain⟨⟨v,w⟩,e,h1⟩:=onSome_is h
 obtain⟨t,rfl,h2⟩:=onSta_is h1
 refine nG ⟨v,t,pairL_is e,?_⟩
 revert h2
 cases v with
 | none=>exact λ _=>.inl rfl
 | int i=>exact λ _=>.inr ⟨i,rfl⟩
 | _=>exact False.elim
theorem b_isinstance{vs:List V}{us:List Value}{P:V→Hp→Prop}{X:Addr→Hp→Prop}(fx:Fx g c)(S:St g c m φ nw H s)(hv:VRs g.K φ nw vs us)(h:Run (isiA vs H) P X) :
  wpAny (model g.prog g.w) c.A (call (.builtin "isinstance") us) (PostE g c m φ nw P s) E s:=by
 obtain⟨v,t,rfl,q⟩:=sh_isi h
 obtain⟨u,u',rfl,hu,hu'⟩:=vrs2 hv
 subst hu'
 have X':=S.in fx
 rcases q with rfl | ⟨i,rfl⟩
 ·refine run_ite h (λ e h=>?_) λ h=>h.elim
  cases isT_eq e
  rw [none_is hu]
  exact isinst kitx_none X' (kit_none_int _) (by intro q;cases q) λ tk=>PostE.here S vr_bool h _
 ·obtain⟨t',rfl⟩:=int_is hu
  refine run_ite h (λ e h=>?_) λ h=>run_ite h (λ e h=>?_) λ h=>h.elim
  ·cases isT_eq e
   exact isinst kitx_int X' (kit_int_int _) (by intro q;cases q) λ tk=>PostE.here S vr_bool h _
  ·cases isT_eq e
   exact isinst kitx_int X' (kit_int_bool _) (by intro q;cases q) λ tk=>PostE.here S vr_bool h _
theorem one_int{vs:List V}{us:List Value}{f:Int→V}{P:V→Hp→Prop}{X:Addr→Hp→Prop}(hv:VRs g.K φ nw vs us)(h:Run (oneA f vs H) P X):∃ n t,us=[.int n t]∧P (f n) H:=by
 obtain⟨n,rfl⟩:=sh_int h
 obtain⟨u,rfl,hu⟩:=vrs1 hv
 obtain⟨t,rfl⟩:=int_is hu
 exact⟨n,t,rfl,h⟩
theorem bcall_sound{f:Value}{vs:List V}{us:List Value}{P:V→Hp→Prop}{X:Addr→Hp→Prop}(fx:Fx g c)(S:St g c m φ nw H s)(hv:VRs g.K φ nw vs us)(h:Run (bcall f vs H) P X) :
  wpAny (model g.prog g.w) c.A (call f us) (PostE g c m φ nw P s) E s:=by
 refine run_ite h (λ e h=>?_) λ h=>run_ite h (λ e h=>?_) λ h=>run_ite h (λ e h=>?_) λ h=>run_ite h (λ e h=>?_) λ h=>run_ite h (λ e h=>?_) λ h=>run_ite h (λ e h=>?_) λ h=>
  run_ite h (λ e h=>?_) λ h=>run_ite h (λ e h=>?_) λ h=>run_ite h (λ e h=>?_) λ h=>run_ite h (λ e h=>?_) λ h=>run_ite h (λ e h=>?_) λ h=>h.elim
 ·rw [isB_eq e]
  obtain⟨a,ws,xs,rfl,hl,hx,hz,h⟩:=lstA_is S hv h
  refine PyProof.Rows.len_list hl (by simp only [List.size_toArray];have:=hx.length;lia) ?_
  simp only [List.size_toArray,hx.length]
  exact PostE.here S vr_int h _
 ·rw [isT_eq e]
  obtain⟨n,t,rfl,h⟩:=one_int (f:=V.rng) hv h
  refine call_range_1 ?_
  refine PostE.add S (S.F.push _) (S.N.push S.F _) ?_ h
  exact⟨_,rfl,_,_,_,.head _,not_mut S (fresh_size S)⟩
 ·rw [isT_eq e];exact b_tuple fx S hv h
 ·rw [isT_eq e]
  obtain⟨a,ws,xs,rfl,hl,hx,hz,h⟩:=lstA_is S hv h
  refine list_copyK S.F S.N hl (λ D n h' F' N' hD=>?_) (by simp only [List.size_toArray,hx.length,sizeL];lia)
  exact list_new (tk:=s.toks) S F' N' (λ p hp=>Nat.ne_of_lt (hD p hp)) hx h
 ·rw [isT_eq e]
  refine byC λ nG=>?_
  obtain⟨b,rfl⟩:=sh_bool h
  obtain⟨u,rfl,hu⟩:=vrs1 hv
  refine nG ?_
  rw [bool_is hu]
  exact call_int_bool (PostE.here S vr_int h _)
 ·rw [isT_eq e]
  obtain⟨b,rfl⟩:=sh_byt h
  obtain⟨u,rfl,hu⟩:=vrs1 hv
  have hu':=hu
  obtain⟨t,rfl⟩:=hu
  exact call_bytes (PostE.now S hu' h)
 ·rw [isB_eq e]
  obtain⟨i,t,rfl,h⟩:=one_int (f:=λ i=>.int i.natAbs) hv h
  refine call_abs_int λ u tk=>?_
  have e:(if i<0 then -i else i)=(i.natAbs:Int):=by
   by_cases q:i<0
   ·rw [if_pos q];exact(Int.ofNat_natAbs_of_nonpos (Int.le_of_lt q)).symm
   ·rw [if_neg q];exact(Int.natAbs_of_nonneg (Int.not_lt.mp q)).symm
  simp only [e]
  exact PostE.here S vr_int h _
 ·rw [isB_eq e]
  refine two_ints S hv h (λ x t y t' e h=>?_) λ a ws xs r e hl hx er h=>?_
  ·subst e;exact max_two_sound S h
  ·subst e;exact max_list_sound S hl hx er h
 ·rw [isB_eq e]
  refine two_ints S hv h (λ x t y t' e h=>?_) λ a ws xs r e hl hx er h=>?_
  ·subst e;exact min_two_sound S h
  ·subst e;exact min_list_sound S hl hx er h
 ·rw [isB_eq e]
  obtain⟨a,ws,xs,rfl,hl,hx,hz,h⟩:=lstA_is S hv h
  obtain⟨r,er,h⟩:=run_ofO (o:=sumI ws) h
  exact sum_list_sound S hl hx er h
 ·rw [isB_eq e];exact b_isinstance fx S hv h
end
end VS.Internal
end
section
open PySem PySem.W PySem.Calls PyProof.Rows PySem.SeqAt
set_option backward.match.sparseCases false
set_option maxRecDepth 100000
namespace VS.Internal
noncomputable def BudC(A:Around)(n:Nat):Prop:=A.depth+10*n≤900∧A.units+100*n≤9000
noncomputable def BudF(A:Around)(n:Nat):Prop:=A.depth+10*n+8≤900∧A.units+100*n+80≤9000
theorem bud{a w x b N:Nat}(h:a+x+b≤N)(hw:w≤b):a+w+x≤N:=Nat.add_right_comm a w x▸Nat.le_trans (Nat.add_le_add_left hw _) h
theorem bud1{a x:Nat}(h:a+10*(x+1)≤900):a+1+10*x+8≤900:=Nat.le_trans (Nat.le_of_eq (Nat.add_right_comm (a+1) (10*x) 8)) (bud (w:=9) (b:=10) (Nat.le_trans (Nat.le_of_eq (Nat.add_assoc a (10*x) 10)) h) (by decide))
theorem bud2{a x:Nat}(h:a+100*(x+1)≤9000):a+3+100*x+80≤9000:=Nat.le_trans (Nat.le_of_eq (Nat.add_right_comm (a+3) (100*x) 80)) (bud (w:=83) (b:=100) (Nat.le_trans (Nat.le_of_eq (Nat.add_assoc a (100*x) 100)) h) (by decide))
theorem bud3{a x:Nat}(h:a+x≤900):a<1000:=Nat.lt_of_le_of_lt (Nat.le_trans (Nat.le_add_right _ _) h) (by decide)
noncomputable def HX(hd:Bool)(A:Around)(X:Addr→Hp→Prop):Prop:=(hd=false∧A.handled=none)∨(hd=true∧∀ C h,¬ X C h)
theorem HX.noX{hd:Bool}{A A':Around}{X:Addr→Hp→Prop}(h:HX hd A X)(e:A'.handled=A.handled):HX hd A' (λ _ _=>False):=h.imp (λ⟨a,b⟩=>⟨a,e.trans b⟩) λ⟨a,_⟩=>⟨a,λ _ _ h=>h⟩
noncomputable def BudX(hd:Bool)(c:Cx)(X:Addr→Hp→Prop)(n:Nat):Prop:=BudF c.A n∧HX hd c.A X
theorem BudX.noX{hd:Bool}{c:Cx}{X:Addr→Hp→Prop}{n:Nat}(b:BudX hd c X n):BudX hd c (λ _ _=>False) n:=⟨b.1,b.2.noX rfl⟩
noncomputable def KE(K:Frag)(φ:Ph)(nw:Nw)(p:PySem.Str × V)(q:PySem.Str × Value):Prop:=q.1=p.1∧VR K φ nw p.2 q.2
noncomputable def KRs(K:Frag)(φ:Ph)(nw:Nw)(vs:List (PySem.Str × V))(us:List (PySem.Str × Value)):Prop:=L2 (KE K φ nw) vs us
theorem KRs.mono{K:Frag}{φ φ':Ph}{nw nw':Nw}(x:ExtS φ nw φ' nw')(vs:List (PySem.Str × V))(us:List (PySem.Str × Value))(h:KRs K φ nw vs us):KRs K φ' nw' vs us:=L2.monoR (λ _ _ h=>⟨h.1,VR.mono x _ _ h.2⟩) h
noncomputable def CallPost(g:G0)(c:Cx)(m:PySem.Str→Option Value)(φ:Ph)(nw:Nw)(P:V→Hp→Prop)(X:Addr→Hp→Prop)(s:Shared):Result→Shared→Prop:=λ r s'=>match r with
 | .ok (.ret v)=>PostE g c m φ nw P s v s'
 | .ok _=>False
 | .error e=>PostX g c m φ nw X s e s'
noncomputable def CallOk(hd:Bool)(g:G0)(call:CallT)(n:Nat):Prop:=
 ∀(c:Cx) (m:PySem.Str→Option Value) (φ:Ph) (nw:Nw) (H:Hp) (s:Shared) (f:Addr) (vs:List V) (us:List Value) (kws:List (PySem.Str × V)) (kus:List (PySem.Str × Value)) (P:V→Hp→Prop) (X:Addr→Hp→Prop),
  Fx g c→BudC c.A n∧HX hd c.A X→St g c m φ nw H s→VRs g.K φ nw vs us→KRs g.K φ nw kws kus→Run (call f vs kws H) P X→
  codeAny (model g.prog g.w) c.A (.call (.ref f) ⟨us,kus⟩) (CallPost g c m φ nw P X s) s
section
variable{g:G0}{c:Cx}{m:PySem.Str→Option Value}{φ φ':Ph}{nw nw':Nw}{H H':Hp}{s s':Shared}{A:Around}{E:Value→Shared→Prop}{X:Addr→Hp→Prop}
theorem step{α β:Type}{Rel:Ph→Nw→α→β→Prop}{P1:α→Hp→Prop}{t:Sem β}{T:β→Shared→Prop}(x:Ext φ nw φ' nw')(hu:Upto s s')
  (ht:wpAny (model g.prog g.w) A t (PostG Rel g c m φ' nw' P1 s') (PostX g c m φ' nw' X s') s')
  (k:∀ φ'' nw'' H'' a u s'',St g c m φ'' nw'' H'' s''→Ext φ nw φ'' nw''→Ext φ' nw' φ'' nw''→Rel φ'' nw'' a u→P1 a H''→Upto s s''→T u s'') :
  wpAny (model g.prog g.w) A t T (PostX g c m φ nw X s) s':=
 wpAny_mono ht (λ u s'' h=>let ⟨φ'',nw'',H'',a,S,y,hr,hP,hu'⟩:=h;k φ'' nw'' H'' a u s'' S (x.trans y) y hr hP (hu.trans hu')) λ _ _ h=>PostX.mono x hu h
theorem fin{α β:Type}{Rel:Ph→Nw→α→β→Prop}{P:α→Hp→Prop}{t:Sem β}(x:Ext φ nw φ' nw')(hu:Upto s s')
  (ht:wpAny (model g.prog g.w) A t (PostG Rel g c m φ' nw' P s') (PostX g c m φ' nw' X s') s'):wpAny (model g.prog g.w) A t (PostG Rel g c m φ nw P s) (PostX g c m φ nw X s) s':=
 step x hu ht λ φ'' nw'' H'' a _ _ S y _ hr hP hu'=>⟨φ'',nw'',H'',a,S,y,hr,hP,hu'⟩
theorem step0{α β:Type}{Rel:Ph→Nw→α→β→Prop}{P1:α→Hp→Prop}{t:Sem β}{T:β→Shared→Prop}
  (ht:wpAny (model g.prog g.w) A t (PostG Rel g c m φ nw P1 s) (PostX g c m φ nw X s) s)
  (k:∀ φ'' nw'' H'' a u s'',St g c m φ'' nw'' H'' s''→Ext φ nw φ'' nw''→Rel φ'' nw'' a u→P1 a H''→Upto s s''→T u s'') :
  wpAny (model g.prog g.w) A t T (PostX g c m φ nw X s) s:=
 step (.refl _ _) (.refl _) ht λ φ'' nw'' H'' a u s'' S y _ hr hP hu'=>k φ'' nw'' H'' a u s'' S y hr hP hu'
end
noncomputable def BR(_:Ph)(_:Nw)(b b':Bool):Prop:=b=b'
structure Sound(hd:Bool)(g:G0)(call:CallT)(k n:Nat):Prop where
 E:∀{c:Cx}{env:Env}{sc:Scope}{ρ:Lo}{m:PySem.Str→Option Value}{φ:Ph}{nw:Nw}{H:Hp}{s:Shared}{e:Expr}{P:V→Hp→Prop}{X:Addr→Hp→Prop},
  Fx g c→BudX hd c X k→St g c m φ nw H s→EnvOk g c env sc ρ m φ nw→Run (evE g.K call n sc ρ e H) P X→wpAny (model g.prog g.w) c.A (eval e env) (PostG (VR g.K) g c m φ nw P s) (PostX g c m φ nw X s) s
 O:∀{c:Cx}{env:Env}{sc:Scope}{ρ:Lo}{m:PySem.Str→Option Value}{φ:Ph}{nw:Nw}{H:Hp}{s:Shared}{e:Option Expr}{P:V→Hp→Prop}{X:Addr→Hp→Prop},
  Fx g c→BudX hd c X k→St g c m φ nw H s→EnvOk g c env sc ρ m φ nw→Run (evO g.K call n sc ρ e H) P X→wpAny (model g.prog g.w) c.A (evalPart e env) (PostG (VR g.K) g c m φ nw P s) (PostX g c m φ nw X s) s
 L:∀{c:Cx}{env:Env}{sc:Scope}{ρ:Lo}{m:PySem.Str→Option Value}{φ:Ph}{nw:Nw}{H:Hp}{s:Shared}{es:List Expr}{pos:Pos}{P:List V→Hp→Prop}{X:Addr→Hp→Prop},
  Fx g c→BudX hd c X k→St g c m φ nw H s→EnvOk g c env sc ρ m φ nw→es.any isStar=false→Run (evL g.K call n sc ρ es H) P X→
  wpAny (model g.prog g.w) c.A (spliced (backTo pos (starEach es env))) (PostG (VRs g.K) g c m φ nw P s) (PostX g c m φ nw X s) s
 K:∀{c:Cx}{env:Env}{sc:Scope}{ρ:Lo}{m:PySem.Str→Option Value}{φ:Ph}{nw:Nw}{H:Hp}{s:Shared}{kws:List Keyword}{pos:Pos}{P:List (PySem.Str × V)→Hp→Prop}{X:Addr→Hp→Prop},
  Fx g c→BudX hd c X k→St g c m φ nw H s→EnvOk g c env sc ρ m φ nw→Run (evK g.K call n sc ρ kws H) P X→
  wpAny (model g.prog g.w) c.A (evalAll ((backToKw pos (keywordEach kws env)).map (·.2))) (PostG (λ φ nw vs us=>KRs g.K φ nw vs ((kws.filterMap (·.arg)).zip us)) g c m φ nw P s) (PostX g c m φ nw X s) s
 T:∀{c:Cx}{env:Env}{sc:Scope}{ρ:Lo}{m:PySem.Str→Option Value}{φ:Ph}{nw:Nw}{H:Hp}{s:Shared}{es:List Expr}{P:Bool→Hp→Prop}{X:Addr→Hp→Prop},
  Fx g c→BudX hd c X k→St g c m φ nw H s→EnvOk g c env sc ρ m φ nw→Run (evT g.K call n sc ρ es H) P X→
  wpAny (model g.prog g.w) c.A (forIn es true λ c r=>if r=true then do let ok ←isTrue c env (eval c env);pure (ForInStep.yield ok) else pure (ForInStep.yield r)) (PostG BR g c m φ nw P s) (PostX g c m φ nw X s) s
 B:∀{c:Cx}{env:Env}{sc:Scope}{ρ:Lo}{m:PySem.Str→Option Value}{φ:Ph}{nw:Nw}{H:Hp}{s:Shared}{op:BoolOp}{es:List Expr}{pos:Pos}{P:V→Hp→Prop}{X:Addr→Hp→Prop},
  Fx g c→BudX hd c X k→St g c m φ nw H s→EnvOk g c env sc ρ m φ nw→Run (evB g.K call n sc ρ op es H) P X→wpAny (model g.prog g.w) c.A (eval (.BoolOp op es pos) env) (PostG (VR g.K) g c m φ nw P s) (PostX g c m φ nw X s) s
 C:∀{c:Cx}{env:Env}{sc:Scope}{ρ:Lo}{m:PySem.Str→Option Value}{φ:Ph}{nw:Nw}{H:Hp}{s:Shared}{v:V}{u:Value}{ops:List CmpOp}{cs:List Expr}{pos:Pos}{P:V→Hp→Prop}{X:Addr→Hp→Prop},
  Fx g c→BudX hd c X k→St g c m φ nw H s→EnvOk g c env sc ρ m φ nw→VR g.K φ nw v u→Run (evC g.K call n sc ρ v ops cs H) P X→
  wpAny (model g.prog g.w) c.A (compareChain pos u ops (evalEach cs env)) (PostG (VR g.K) g c m φ nw P s) (PostX g c m φ nw X s) s
 I:∀{c:Cx}{env:Env}{sc:Scope}{ρ:Lo}{m:PySem.Str→Option Value}{φ:Ph}{nw:Nw}{H:Hp}{s:Shared}{e:Expr}{P:Bool→Hp→Prop}{X:Addr→Hp→Prop},
  Fx g c→BudX hd c X k→St g c m φ nw H s→EnvOk g c env sc ρ m φ nw→Run (evE g.K call n sc ρ e H) (boolP P) X→wpAny (model g.prog g.w) c.A (isTrue e env (eval e env)) (PostG BR g c m φ nw P s) (PostX g c m φ nw X s) s
 IB:∀{c:Cx}{env:Env}{sc:Scope}{ρ:Lo}{m:PySem.Str→Option Value}{φ:Ph}{nw:Nw}{H:Hp}{s:Shared}{op:BoolOp}{es:List Expr}{pos:Pos}{w:Sem Value}{P:Bool→Hp→Prop}{X:Addr→Hp→Prop},
  Fx g c→BudX hd c X k→St g c m φ nw H s→EnvOk g c env sc ρ m φ nw→Run (evB g.K call n sc ρ op es H) (boolP P) X→wpAny (model g.prog g.w) c.A (isTrue (.BoolOp op es pos) env w) (PostG BR g c m φ nw P s) (PostX g c m φ nw X s) s
 IC:∀{c:Cx}{env:Env}{sc:Scope}{ρ:Lo}{m:PySem.Str→Option Value}{φ:Ph}{nw:Nw}{H:Hp}{s:Shared}{v:V}{u:Value}{ops:List CmpOp}{cs:List Expr}{pos:Pos}{P:Bool→Hp→Prop}{X:Addr→Hp→Prop},
  Fx g c→BudX hd c X k→St g c m φ nw H s→EnvOk g c env sc ρ m φ nw→VR g.K φ nw v u→Run (evC g.K call n sc ρ v ops cs H) (boolP P) X→
  wpAny (model g.prog g.w) c.A (testChain pos u ops (evalEach cs env)) (PostG BR g c m φ nw P s) (PostX g c m φ nw X s) s
section
variable{g:G0}{call:CallT}{hd:Bool}{k n:Nat}{c:Cx}{env:Env}{sc:Scope}{ρ:Lo}{m:PySem.Str→Option Value}{φ:Ph}{nw:Nw}{H:Hp}{s:Shared}{X:Addr→Hp→Prop}
theorem const_sound{co:Const}{kk:Nat}{pos:Pos}{P:V→Hp→Prop}{E:Value→Shared→Prop}(S:St g c m φ nw H s)(h:Run (constV co H) P X) :
  wpAny (model g.prog g.w) c.A (eval (.Constant co kk pos) env) (PostG (VR g.K) g c m φ nw P s) E s:=by
 cases co with
 | none=>exact Constant_none (PostE.now S vr_none h)
 | bool b=>exact Constant_bool (PostE.now S vr_bool h)
 | int i=>exact wpAny_Constant_int (PostE.here S vr_int h _)
 | str x=>exact Constant_str (PostE.here S vr_str h _)
 | bytes b=>exact λ _ _ _=>PostE.here (g:=g) (c:=c) S vr_byt h _
 | _=>exact h.elim
theorem sound_zero:Sound hd g call k 0 where
 E:=λ _ _ _ _ h=>h.elim
 O:=λ _ _ _ _ h=>h.elim
 L:=λ _ _ _ _ _ h=>h.elim
 K:=λ _ _ _ _ h=>h.elim
 T:=λ _ _ _ _ h=>h.elim
 B:=λ _ _ _ _ h=>h.elim
 C:=λ _ _ _ _ _ h=>h.elim
 I:=λ _ _ _ _ h=>h.elim
 IB:=λ _ _ _ _ h=>h.elim
 IC:=λ _ _ _ _ _ h=>h.elim
theorem star_alt(e:Expr):∀(r:List Expr) (env:Env),cond (Nat.beq e.ctorIdx 22) True (starEach (e::r) env=(false,eval e env)::starEach r env):=by
 cases e<;>first | exact λ _ _=>True.intro | exact λ _ _=>rfl
theorem star_one{e:Expr}{r:List Expr}{env:Env}(h:isStar e=false):starEach (e::r) env=(false,eval e env)::starEach r env:=by
 have q:=star_alt e r env
 rw [show Nat.beq e.ctorIdx 22=false from h] at q
 exact q
theorem L_succ{es:List Expr}{pos:Pos}{P:List V→Hp→Prop}(Y:Sound hd g call k n)(fx:Fx g c)(bf:BudX hd c X k)(S:St g c m φ nw H s)(O:EnvOk g c env sc ρ m φ nw)(hs:es.any isStar=false)
  (h:Run (evL g.K call (n+1) sc ρ es H) P X):wpAny (model g.prog g.w) c.A (spliced (backTo pos (starEach es env))) (PostG (VRs g.K) g c m φ nw P s) (PostX g c m φ nw X s) s:=by
 cases es with
 | nil=>exact spliced_nil ⟨φ,nw,H,[],S,.refl _ _,VRs.nil,h,.refl _⟩
 | cons e r=>
  simp only [List.any_cons,Bool.or_eq_false_iff] at hs
  have h':Run (evE g.K call n sc ρ e H) (λ v H=>Run ((evL g.K call n sc ρ r >>= λ vs=>pure (v::vs)) H) P X) X:=h
  have e1:starEach (e::r) env=(false,eval e env)::starEach r env:=star_one hs.1
  rw [e1]
  refine spliced_cons (step0 (Y.E fx bf S O h') λ φ1 nw1 H1 v u s1 S1 x1 hv h1 u1=>?_)
  refine step x1 u1 (Y.L fx bf S1 (O.mono x1.s) hs.2 h1) λ φ2 nw2 H2 vs us s2 S2 x2 y2 hvs h2 u2=>?_
  exact⟨φ2,nw2,H2,v::vs,S2,x2,VRs.cons (VR.mono y2.s _ _ hv) hvs,h2,u2⟩
theorem K_succ{kws:List Keyword}{pos:Pos}{P:List (PySem.Str × V)→Hp→Prop}(Y:Sound hd g call k n)(fx:Fx g c)(bf:BudX hd c X k)(S:St g c m φ nw H s)(O:EnvOk g c env sc ρ m φ nw)
  (h:Run (evK g.K call (n+1) sc ρ kws H) P X):wpAny (model g.prog g.w) c.A (evalAll ((backToKw pos (keywordEach kws env)).map (·.2))) (PostG (λ φ nw vs us=>KRs g.K φ nw vs ((kws.filterMap (·.arg)).zip us)) g c m φ nw P s) (PostX g c m φ nw X s) s:=by
 cases kws with
 | nil=>exact kwAll_nil ⟨φ,nw,H,[],S,.refl _ _,(rfl:KRs g.K φ nw [] []),h,.refl _⟩
 | cons kw r=>
  obtain⟨nm,e,p⟩:=kw
  cases nm with
  | none=>exact h.elim
  | some x=>
   have h':Run (evE g.K call n sc ρ e H) (λ v H=>Run ((evK g.K call n sc ρ r >>= λ vs=>pure ((x,v)::vs)) H) P X) X:=h
   refine kwAll_cons (step0 (Y.E fx bf S O h') λ φ1 nw1 H1 v u s1 S1 x1 hv h1 u1=>?_)
   refine step x1 u1 (Y.K fx bf S1 (O.mono x1.s) h1) λ φ2 nw2 H2 vs us s2 S2 x2 y2 hvs h2 u2=>?_
   refine⟨φ2,nw2,H2,(x,v)::vs,S2,x2,?_,h2,u2⟩
   exact⟨(x,u),_,rfl,⟨rfl,VR.mono y2.s _ _ hv⟩,hvs⟩
theorem O_succ{e:Option Expr}{P:V→Hp→Prop}(Y:Sound hd g call k n)(fx:Fx g c)(bf:BudX hd c X k)(S:St g c m φ nw H s)(O:EnvOk g c env sc ρ m φ nw)
  (h:Run (evO g.K call (n+1) sc ρ e H) P X):wpAny (model g.prog g.w) c.A (evalPart e env) (PostG (VR g.K) g c m φ nw P s) (PostX g c m φ nw X s) s:=by
 cases e with
 | none=>exact wpAny_pure ⟨φ,nw,H,.none,S,.refl _ _,vr_none,h,.refl _⟩
 | some e=>exact Y.E fx bf S O h
theorem T_succ{es:List Expr}{P:Bool→Hp→Prop}(Y:Sound hd g call k n)(fx:Fx g c)(bf:BudX hd c X k)(S:St g c m φ nw H s)(O:EnvOk g c env sc ρ m φ nw)
  (h:Run (evT g.K call (n+1) sc ρ es H) P X) :
  wpAny (model g.prog g.w) c.A (forIn es true λ c r=>if r=true then do let ok ←isTrue c env (eval c env);pure (ForInStep.yield ok) else pure (ForInStep.yield r)) (PostG BR g c m φ nw P s) (PostX g c m φ nw X s) s:=by
 rcases es with _ | ⟨e,_ | ⟨_,_⟩⟩
 ·exact wpAny_tests_nil ⟨φ,nw,H,true,S,.refl _ _,rfl,h,.refl _⟩
 ·
  have h':Run (evE g.K call n sc ρ e H) (λ v H=>Run ((asB v) H) P X) X:=h
  exact wpAny_tests_one (Y.I fx bf S O (h'.mono (λ v h1 hh=>asB_run hh) λ _ _ hx=>hx))
 ·exact h.elim
theorem boolRun{v:V}{P:Bool→Hp→Prop}(h:Run (asB v H) P X):∃ b,v = .bool b∧P b H:=asB_run h
theorem B_succ{op:BoolOp}{es:List Expr}{pos:Pos}{P:V→Hp→Prop}(Y:Sound hd g call k n)(fx:Fx g c)(bf:BudX hd c X k)(S:St g c m φ nw H s)(O:EnvOk g c env sc ρ m φ nw)
  (h:Run (evB g.K call (n+1) sc ρ op es H) P X):wpAny (model g.prog g.w) c.A (eval (.BoolOp op es pos) env) (PostG (VR g.K) g c m φ nw P s) (PostX g c m φ nw X s) s:=by
 cases es with
 | nil=>exact h.elim
 | cons e r=>
  cases r with
  | nil=>
   have h':Run (evE g.K call n sc ρ e H) (λ v H=>Run ((asB v >>= λ b=>pure (.bool b)) H) P X) X:=by cases op<;>exact h
   refine BoolOp_one (step0 (Y.E fx bf S O h') λ φ1 nw1 H1 v u s1 S1 x1 hv h1 u1=>?_)
   obtain⟨b,rfl,h1⟩:=boolRun h1
   exact⟨φ1,nw1,H1,_,S1,x1,hv,h1,u1⟩
  | cons e₂ r=>
   cases op with
   | And=>
    have h':Run (evE g.K call n sc ρ e H) (λ v H=>Run ((asB v >>= λ b=>if b then evB g.K call n sc ρ .And (e₂ :: r) else pure (.bool false)) H) P X) X:=h
    refine BoolOp_and (step0 (Y.E fx bf S O h') λ φ1 nw1 H1 v u s1 S1 x1 hv h1 u1=>?_)
    obtain⟨b,rfl,h1⟩:=boolRun h1
    have:=bool_is hv
    subst this
    refine wpAny_truthy_bool ?_
    cases b with
    | true=>exact fin x1 u1 (Y.B fx bf S1 (O.mono x1.s) h1)
    | false=>exact⟨φ1,nw1,H1,_,S1,x1,hv,h1,u1⟩
   | Or=>
    have h':Run (evE g.K call n sc ρ e H) (λ v H=>Run ((asB v >>= λ b=>if b then pure (.bool true) else evB g.K call n sc ρ .Or (e₂ :: r)) H) P X) X:=h
    refine BoolOp_or (step0 (Y.E fx bf S O h') λ φ1 nw1 H1 v u s1 S1 x1 hv h1 u1=>?_)
    obtain⟨b,rfl,h1⟩:=boolRun h1
    have:=bool_is hv
    subst this
    refine wpAny_truthy_bool ?_
    cases b with
    | true=>exact⟨φ1,nw1,H1,_,S1,x1,hv,h1,u1⟩
    | false=>exact fin x1 u1 (Y.B fx bf S1 (O.mono x1.s) h1)
theorem units_ok{A:Around}(bf:BudF A k):A.units+64<cLine:=by
 exact Nat.lt_of_le_of_lt (Nat.le_trans (Nat.add_le_add (Nat.le_add_right _ _) (by decide:64≤80)) bf.2) (by decide:9000<9900)
inductive ChS:List CmpOp→List Expr→Prop
 | one (op:CmpOp) (e:Expr):ChS [op] [e]
 | more (op op':CmpOp) (ops:List CmpOp) (e e':Expr) (cs:List Expr):ChS (op::op'::ops) (e::e'::cs)
theorem ch_shape{K:Frag}{v:V}{ops:List CmpOp}{cs:List Expr}{P:V→Hp→Prop}(h:Run (evC K call (n+1) sc ρ v ops cs H) P X):ChS ops cs:=by
 revert h
 rcases ops with _ | ⟨op,_ | ⟨op',ops⟩⟩<;>rcases cs with _ | ⟨e,_ | ⟨e',cs⟩⟩<;>first | exact λ _=>.one op e | exact λ _=>.more op op' ops e e' cs | exact False.elim
theorem C_succ{v:V}{u:Value}{ops:List CmpOp}{cs:List Expr}{pos:Pos}{P:V→Hp→Prop}(Y:Sound hd g call k n)(fx:Fx g c)(bf:BudX hd c X k)(S:St g c m φ nw H s)(O:EnvOk g c env sc ρ m φ nw)(hv:VR g.K φ nw v u)
  (h:Run (evC g.K call (n+1) sc ρ v ops cs H) P X):wpAny (model g.prog g.w) c.A (compareChain pos u ops (evalEach cs env)) (PostG (VR g.K) g c m φ nw P s) (PostX g c m φ nw X s) s:=by
 cases ch_shape h with
 | one op e=>
  have h':Run (evE g.K call n sc ρ e H) (λ b H=>Run ((cmpV op v b >>= λ r=>pure (.bool r)) H) P X) X:=h
  refine chain_last (step0 (Y.E fx bf S O h') λ φ1 nw1 H1 w u' s1 S1 x1 hw h1 u1=>?_)
  refine step x1 u1 (cmpV_sound (E:=PostX g c m φ1 nw1 X s1) fx (units_ok bf.1) S1 (VR.mono x1.s _ _ hv) hw h1) λ φ2 nw2 H2 r u2' s2 S2 x2 y2 hr h2 u2=>?_
  refine byC λ nG=>?_
  obtain⟨b,rfl,h2⟩:=h2
  refine nG ?_
  exact⟨φ2,nw2,H2,_,S2,x2,hr,h2,u2⟩
 | more op op' ops e e' cs=>
  have h':Run (evE g.K call n sc ρ e H) (λ b H=>Run ((cmpV op v b >>= λ r=>if r then evC g.K call n sc ρ b (op'::ops) (e'::cs) else pure (.bool false)) H) P X) X:=h
  refine chain_link (step0 (Y.E fx bf S O h') λ φ1 nw1 H1 w u' s1 S1 x1 hw h1 u1=>?_)
  refine step x1 u1 (cmpV_sound (E:=PostX g c m φ1 nw1 X s1) fx (units_ok bf.1) S1 (VR.mono x1.s _ _ hv) hw h1) λ φ2 nw2 H2 r u2' s2 S2 x2 y2 hr h2 u2=>?_
  obtain⟨b,rfl,h2⟩:=h2
  have:=bool_is hr
  subst this
  refine wpAny_truthy_bool ?_
  cases b with
  | true=>exact fin x2 u2 (Y.C fx bf S2 (O.mono x2.s) (VR.mono y2.s _ _ hw) h2)
  | false=>exact⟨φ2,nw2,H2,_,S2,x2,hr,h2,u2⟩
theorem IC_succ{v:V}{u:Value}{ops:List CmpOp}{cs:List Expr}{pos:Pos}{P:Bool→Hp→Prop}(Y:Sound hd g call k n)(fx:Fx g c)(bf:BudX hd c X k)(S:St g c m φ nw H s)(O:EnvOk g c env sc ρ m φ nw)(hv:VR g.K φ nw v u)
  (h:Run (evC g.K call (n+1) sc ρ v ops cs H) (boolP P) X):wpAny (model g.prog g.w) c.A (testChain pos u ops (evalEach cs env)) (PostG BR g c m φ nw P s) (PostX g c m φ nw X s) s:=by
 cases ch_shape h with
 | one op e=>
  have h':Run (evE g.K call n sc ρ e H) (λ b H=>Run ((cmpV op v b >>= λ r=>pure (.bool r)) H) (boolP P) X) X:=h
  refine test_last (step0 (Y.E fx bf S O h') λ φ1 nw1 H1 w u' s1 S1 x1 hw h1 u1=>?_)
  refine step x1 u1 (cmpV_sound (E:=PostX g c m φ1 nw1 X s1) fx (units_ok bf.1) S1 (VR.mono x1.s _ _ hv) hw h1) λ φ2 nw2 H2 r u2' s2 S2 x2 y2 hr h2 u2=>?_
  obtain⟨b,rfl,b',e1,h2⟩:=h2
  cases e1
  have:=bool_is hr
  subst this
  exact wpAny_truthy_bool ⟨φ2,nw2,H2,_,S2,x2,rfl,h2,u2⟩
 | more op op' ops e e' cs=>
  have h':Run (evE g.K call n sc ρ e H) (λ b H=>Run ((cmpV op v b >>= λ r=>if r then evC g.K call n sc ρ b (op'::ops) (e'::cs) else pure (.bool false)) H) (boolP P) X) X:=h
  refine test_link (step0 (Y.E fx bf S O h') λ φ1 nw1 H1 w u' s1 S1 x1 hw h1 u1=>?_)
  refine step x1 u1 (cmpV_sound (E:=PostX g c m φ1 nw1 X s1) fx (units_ok bf.1) S1 (VR.mono x1.s _ _ hv) hw h1) λ φ2 nw2 H2 r u2' s2 S2 x2 y2 hr h2 u2=>?_
  refine byC λ nG=>?_
  obtain⟨b,rfl,h2⟩:=h2
  refine nG ?_
  have:=bool_is hr
  rw [this]
  refine wpAny_truthy_bool ?_
  cases b with
  | true=>exact fin x2 u2 (Y.IC fx bf S2 (O.mono x2.s) (VR.mono y2.s _ _ hw) h2)
  | false=>
   refine byC λ nG=>?_
   obtain⟨b',e1,h2⟩:=h2
   refine nG ?_
   cases e1
   exact⟨φ2,nw2,H2,_,S2,x2,rfl,h2,u2⟩
theorem IB_succ{op:BoolOp}{es:List Expr}{pos:Pos}{w:Sem Value}{P:Bool→Hp→Prop}(Y:Sound hd g call k n)(fx:Fx g c)(bf:BudX hd c X k)(S:St g c m φ nw H s)(O:EnvOk g c env sc ρ m φ nw)
  (h:Run (evB g.K call (n+1) sc ρ op es H) (boolP P) X):wpAny (model g.prog g.w) c.A (isTrue (.BoolOp op es pos) env w) (PostG BR g c m φ nw P s) (PostX g c m φ nw X s) s:=by
 rcases es with _ | ⟨e,_ | ⟨e₂,r⟩⟩
 ·exact h.elim
 ·
  have h':Run (evE g.K call n sc ρ e H) (λ v H=>Run ((asB v >>= λ b=>pure (.bool b)) H) (boolP P) X) X:=by cases op<;>exact h
  have h2:Run (evE g.K call n sc ρ e H) (boolP P) X:=h'.mono (λ v h1 hh=>by
   obtain⟨b,rfl,b',e1,hh⟩:=boolRun hh
   cases e1
   exact⟨b,rfl,hh⟩) λ _ _ hx=>hx
  cases op with
  | And=>
   refine isTrue_and (step0 (Y.I fx bf S O h2) λ φ1 nw1 H1 b u s1 S1 x1 hb h1 u1=>?_)
   cases hb
   cases b with
   | true=>exact isTrue_and_nil ⟨φ1,nw1,H1,_,S1,x1,rfl,h1,u1⟩
   | false=>exact⟨φ1,nw1,H1,_,S1,x1,rfl,h1,u1⟩
  | Or=>
   refine isTrue_or (step0 (Y.I fx bf S O h2) λ φ1 nw1 H1 b u s1 S1 x1 hb h1 u1=>?_)
   cases hb
   cases b with
   | true=>exact⟨φ1,nw1,H1,_,S1,x1,rfl,h1,u1⟩
   | false=>exact isTrue_or_nil ⟨φ1,nw1,H1,_,S1,x1,rfl,h1,u1⟩
 ·
  cases op with
  | And=>
   have h':Run (evE g.K call n sc ρ e H) (λ v H=>Run ((asB v >>= λ b=>if b then evB g.K call n sc ρ .And (e₂ :: r) else pure (.bool false)) H) (boolP P) X) X:=h
   have h2:Run (evE g.K call n sc ρ e H) (boolP λ b h1=>Run ((if b then evB g.K call n sc ρ .And (e₂ :: r) else pure (.bool false)) h1) (boolP P) X) X:=h'.mono (λ v h1 hh=>by
    obtain⟨b,rfl,hh⟩:=boolRun hh
    exact⟨b,rfl,hh⟩) λ _ _ hx=>hx
   refine isTrue_and (step0 (Y.I fx bf S O h2) λ φ1 nw1 H1 b u s1 S1 x1 hb h1 u1=>?_)
   cases hb
   cases b with
   | true=>exact fin x1 u1 (Y.IB fx bf S1 (O.mono x1.s) h1)
   | false=>
    obtain⟨b',e1,h1⟩:=h1
    cases e1
    exact⟨φ1,nw1,H1,_,S1,x1,rfl,h1,u1⟩
  | Or=>
   have h':Run (evE g.K call n sc ρ e H) (λ v H=>Run ((asB v >>= λ b=>if b then pure (.bool true) else evB g.K call n sc ρ .Or (e₂ :: r)) H) (boolP P) X) X:=h
   have h2:Run (evE g.K call n sc ρ e H) (boolP λ b h1=>Run ((if b then pure (.bool true) else evB g.K call n sc ρ .Or (e₂ :: r)) h1) (boolP P) X) X:=h'.mono (λ v h1 hh=>by
    obtain⟨b,rfl,hh⟩:=boolRun hh
    exact⟨b,rfl,hh⟩) λ _ _ hx=>hx
   refine isTrue_or (step0 (Y.I fx bf S O h2) λ φ1 nw1 H1 b u s1 S1 x1 hb h1 u1=>?_)
   cases hb
   cases b with
   | true=>
    obtain⟨b',e1,h1⟩:=h1
    cases e1
    exact⟨φ1,nw1,H1,_,S1,x1,rfl,h1,u1⟩
   | false=>exact fin x1 u1 (Y.IB fx bf S1 (O.mono x1.s) h1)
end
end VS.Internal
end
section
open PySem PySem.W PySem.Calls PyProof.Rows PySem.SeqAt
set_option backward.match.sparseCases false
set_option maxRecDepth 100000
namespace VS.Internal
section
variable{M:Model}{A:Around}{E:Value→Shared→Prop}{s:Shared}{env:Env}
theorem Compare_any{l ops rs pos}{Q:Value→Shared→Prop}(h:wpAny M A (eval l env) (λ a s₁=>wpAny M A (compareChain pos a ops (evalEach rs env)) Q E s₁) E s)(hm:lastMarks ops rs=false) :
  wpAny M A (eval (.Compare l ops rs pos) env) Q E s:=by
 show wpAny M A (do compareChain pos (←eval l env) ops (markedEach ops rs (evalEach rs env))) Q E s
 rw [markedEach_of_false _ _ _ hm]
 exact wpAny_bind h
theorem isTrue_Compare_any{l ops rs pos whole}{Q:Bool→Shared→Prop}(h:wpAny M A (eval l env) (λ a s₁=>wpAny M A (testChain pos a ops (evalEach rs env)) Q E s₁) E s)(hm:lastMarks ops rs=false) :
  wpAny M A (isTrue (.Compare l ops rs pos) env whole) Q E s:=by
 show wpAny M A (do testChain pos (←eval l env) ops (markedEach ops rs (evalEach rs env))) Q E s
 rw [markedEach_of_false _ _ _ hm]
 exact wpAny_bind h
end
theorem call_base{a:Expr}{as:List Expr}{kws:List Keyword}{p:Pos}(f:Expr):∀(x:PySem.Str) (env:Env) (w:Sem Value),attributeBase (.Call f (a::as) kws p) x env w=w:=by
 cases f<;>exact λ _ _ w=>(rfl:w=w)
theorem base_eq{o:Expr}{x:PySem.Str}{env:Env}{w:Sem Value}(h:okBase o=true):attributeBase o x env w=w:=by
 simp only [okBase,Bool.or_eq_true] at h
 rcases h with ((h | h) | h) | h
 ·exact PySem.Expr.Name.elim (motive_1:=λ o=>attributeBase o x env w=w) o (Nat.eq_of_beq_eq_true h) λ _ _=>(rfl:w=w)
 ·exact PySem.Expr.Attribute.elim (motive_1:=λ o=>attributeBase o x env w=w) o (Nat.eq_of_beq_eq_true h) λ _ _ _=>(rfl:w=w)
 ·exact PySem.Expr.Subscript.elim (motive_1:=λ o=>attributeBase o x env w=w) o (Nat.eq_of_beq_eq_true h) λ _ _ _=>(rfl:w=w)
 ·have q:Nat.beq o.ctorIdx 16=true:=by
   unfold callPart at h
   by_cases q:Nat.beq o.ctorIdx 16=true
   ·exact q
   ·cases (dif_neg q).symm.trans h
  revert h
  refine PySem.Expr.Call.elim o (Nat.eq_of_beq_eq_true q) λ f as kws p h=>?_
  cases as with
  | nil=>cases h
  | cons=>exact call_base f x env w
theorem attr_base{o:Expr}{x:PySem.Str}{pos:Pos}{env:Env}(h:okBase o=true):eval (.Attribute o x pos) env=(do
   let v ←eval o env
   standAt pos.atName
   let r ←holding [v] (getAttr v x true)
   letTemporaryGo o v r
   pure r):=by
 show(do
   let v ←attributeBase o x env (eval o env)
   standAt pos.atName
   let r ←holding [v] (getAttr v x true)
   letTemporaryGo o v r
   pure r)=_
 rw [base_eq h]
section
variable{g:G0}{call:CallT}{hd:Bool}{k n:Nat}{c:Cx}{env:Env}{sc:Scope}{ρ:Lo}{m:PySem.Str→Option Value}{φ:Ph}{nw:Nw}{H:Hp}{s:Shared}{X:Addr→Hp→Prop}
structure SoundC(hd:Bool)(g:G0)(call:CallT)(k n:Nat):Prop where
 Call:∀{c:Cx}{env:Env}{sc:Scope}{ρ:Lo}{m:PySem.Str→Option Value}{φ:Ph}{nw:Nw}{H:Hp}{s:Shared}{f:Expr}{args:List Expr}{kws:List Keyword}{pos:Pos}{P:V→Hp→Prop}{X:Addr→Hp→Prop},
  Fx g c→BudX hd c X k→St g c m φ nw H s→EnvOk g c env sc ρ m φ nw→Run (evE g.K call n sc ρ (.Call f args kws pos) H) P X→wpAny (model g.prog g.w) c.A (eval (.Call f args kws pos) env) (PostG (VR g.K) g c m φ nw P s) (PostX g c m φ nw X s) s
 Comp:∀{c:Cx}{env:Env}{sc:Scope}{ρ:Lo}{m:PySem.Str→Option Value}{φ:Ph}{nw:Nw}{H:Hp}{s:Shared}{elt:Expr}{gens:List Comprehension}{sc':Scope}{pos:Pos}{P:V→Hp→Prop}{X:Addr→Hp→Prop},
  Fx g c→BudX hd c X k→St g c m φ nw H s→EnvOk g c env sc ρ m φ nw→Run (evE g.K call n sc ρ (.ListComp elt gens sc' pos) H) P X→wpAny (model g.prog g.w) c.A (eval (.ListComp elt gens sc' pos) env) (PostG (VR g.K) g c m φ nw P s) (PostX g c m φ nw X s) s
theorem slice_alt(i:Expr):cond (Nat.beq i.ctorIdx 26) True (∀ o v,subscripted i false o v=operate [o,v] (getItem o v)):=by
 cases i<;>first | exact True.intro | exact λ o v=>(rfl:operate [o,v] (getItem o v)=operate [o,v] (getItem o v))
theorem slice_none{i:Expr}(h:slicePart i=none)(hn:∀ a b c p,i≠.Slice a b (some c) p)(o v:Value):subscripted i false o v=operate [o,v] (getItem o v):=by
 have q:=slice_alt i
 cases e:Nat.beq i.ctorIdx 26 with
 | false=>rw [e] at q;exact q o v
 | true=>
  revert h hn
  clear q
  refine PySem.Expr.Slice.elim i (Nat.eq_of_beq_eq_true e) λ a b st p h hn=>?_
  cases st with
  | none=>exact no_some (α:=Option Expr × Option Expr) h.symm
  | some st=>exact absurd rfl (hn a b st p)
theorem E_succ{e:Expr}{P:V→Hp→Prop}(Y:Sound hd g call k n)(Z:SoundC hd g call k (n+1))(fx:Fx g c)(bf:BudX hd c X k)(S:St g c m φ nw H s)(O:EnvOk g c env sc ρ m φ nw)
  (h:Run (evE g.K call (n+1) sc ρ e H) P X):wpAny (model g.prog g.w) c.A (eval e env) (PostG (VR g.K) g c m φ nw P s) (PostX g c m φ nw X s) s:=by
 revert h
 cases e with
 | Constant co kk pos=>intro h;exact const_sound S h
 | Name x pos=>intro h;exact nameV_sound (X:=X) (X':=X) fx S O h
 | BoolOp op es pos=>intro h;exact Y.B fx bf S O h
 | BinOp l op r pos=>
  intro h
  have h':Run (evE g.K call n sc ρ l H) (λ a H=>Run ((evE g.K call n sc ρ r >>= λ b=>binV op a b) H) P X) X:=h
  refine wpAny_BinOp (step0 (Y.E fx bf S O h') λ φ1 nw1 H1 v u s1 S1 x1 hv h1 u1=>?_)
  refine step x1 u1 (Y.E fx bf S1 (O.mono x1.s) h1) λ φ2 nw2 H2 w u' s2 S2 x2 y2 hw h2 u2=>?_
  exact fin x2 u2 (binV_sound (X:=X) fx S2 (VR.mono y2.s _ _ hv) hw h2)
 | UnaryOp op x pos=>
  intro h
  have h':Run (evE g.K call n sc ρ x H) (λ a H=>Run ((unV op a) H) P X) X:=h
  refine UnaryOp_ (step0 (Y.E fx bf S O h') λ φ1 nw1 H1 v u s1 S1 x1 hv h1 u1=>?_)
  exact fin x1 u1 (unV_sound (X:=X) S1 hv h1)
 | IfExp t b o pos=>
  intro h
  have h':Run (evE g.K call n sc ρ t H) (λ c H=>Run ((asB c >>= λ c=>if c then evE g.K call n sc ρ b else evE g.K call n sc ρ o) H) P X) X:=h
  have h2:Run (evE g.K call n sc ρ t H) (boolP λ c h1=>Run ((if c then evE g.K call n sc ρ b else evE g.K call n sc ρ o) h1) P X) X:=h'.mono (λ v h1 hh=>by
   exact boolRun hh) λ _ _ hx=>hx
  refine IfExp_ (step0 (Y.I fx bf S O h2) λ φ1 nw1 H1 b u s1 S1 x1 hb h1 u1=>?_)
  subst hb
  cases b with
  | true=>exact fin x1 u1 (Y.E fx bf S1 (O.mono x1.s) h1)
  | false=>exact fin x1 u1 (Y.E fx bf S1 (O.mono x1.s) h1)
 | Compare l ops cs pos=>
  intro h
  refine(rNoB (b:=lastMarks ops cs) h).elim λ hm h'=>?_
  ·have h':Run (evE g.K call n sc ρ l H) (λ a H=>Run ((evC g.K call n sc ρ a ops cs) H) P X) X:=h'
   refine Compare_any (step0 (Y.E fx bf S O h') λ φ1 nw1 H1 v u s1 S1 x1 hv h1 u1=>?_) hm
   exact fin x1 u1 (Y.C fx bf S1 (O.mono x1.s) hv h1)
 | List es pos=>
  intro h
  refine(rNoB (b:=es.any isStar) h).elim λ hm h'=>?_
  ·have h':Run (evL g.K call n sc ρ es H) (λ vs H=>Run ((if vs.length≤1000 then alloc (.list vs) else no) H) P X) X:=h'
   refine List_ (step0 (Y.L fx bf S O hm h') λ φ1 nw1 H1 vs us s1 S1 x1 hv h1 u1=>?_)
   have h2:=rIf h1
   have hz:=h2.1
   refine fin x1 u1 (newList_N S1.F S1.N (λ h' F' N'=>?_) (by rw [hv.length,sizeL];omega))
   exact list_new (tk:=s1.toks) S1 F' N' (fresh_size S1) hv h2.2
 | Tuple es kk pos=>
  intro h
  refine(rNoB (b:=es.any isStar) h).elim λ hm h'=>?_
  ·have h':Run (evL g.K call n sc ρ es H) (λ vs H=>Run ((if vs.length≤1000 then pure (.tup vs) else no) H) P X) X:=h'
   refine Tuple_ (step0 (Y.L fx bf S O hm h') λ φ1 nw1 H1 vs us s1 S1 x1 hv h1 u1=>?_)
   have h2:=rIf h1
   have hz:=h2.1
   refine fin x1 u1 (newTuple_N S1.F S1.N (λ h' F' N'=>?_) (by rw [hv.length,sizeL];omega))
   exact PostE.add (tk:=s1.toks) S1 F' N' (tup_new (n:=0) (not_mut S1 (fresh_size S1)) (.head _) (hv.mono1 λ _ h=>.tail _ h)) h2.2
 | Attribute o x pos=>
  intro h
  refine(rIf (p:=okBase o=true) h).elim λ hm h'=>?_
  ·have h':Run (evE g.K call n sc ρ o H) (λ a H=>Run ((getA g.K a x) H) P X) X:=h'
   refine Attribute_any_ (step0 (Y.E fx bf S O h') λ φ1 nw1 H1 v u s1 S1 x1 hv h1 u1=>?_) (attr_base hm)
   exact fin x1 u1 (getA_sound (X:=X) fx S1 hv h1)
 | Subscript o i pos=>
  intro h
  refine run_elim (o:=slicePart i) h (λ hs h=>?_) λ p hs h=>?_
  ·have h':Run (evE g.K call n sc ρ o H) (λ a H=>Run ((evE g.K call n sc ρ i >>= λ b=>getI a b) H) P X) X:=h
   refine Subscript_ (step0 (Y.E fx bf S O h') λ φ1 nw1 H1 v u s1 S1 x1 hv h1 u1=>?_)
   have hn:∀ a b c p,i≠.Slice a b (some c) p:=λ a b c p q=>by
    subst q
    cases n with
    | zero=>exact h1.elim
    | succ n=>exact h1.elim
   refine step x1 u1 (Y.E fx bf S1 (O.mono x1.s) h1) λ φ2 nw2 H2 w u' s2 S2 x2 y2 hw h2 u2=>?_
   refine byC λ nG=>?_
   obtain⟨T,id,hT,hl,_,_,_,hg⟩:=getI_item (E:=PostX g c m φ nw X s) fx S2 (VR.mono y2.s _ _ hv) hw h2
   refine nG ?_
   refine tail_any hT hl (wpAny_mono hg (λ r s3 hr=>?_) λ _ _ x=>x) (slice_none hs hn _ _)
   exact PostE.mono x2 u2 hr
  ·obtain⟨lo,hi⟩:=p
   obtain⟨p',rfl⟩:=slice_is hs
   have h':Run (evE g.K call n sc ρ o H) (λ a H=>Run ((evO g.K call n sc ρ lo >>= λ l=>evO g.K call n sc ρ hi >>= λ u=>sliceV g.K a l u) H) P X) X:=h
   refine Subscript_ (step0 (Y.E fx bf S O h') λ φ1 nw1 H1 v u s1 S1 x1 hv h1 u1=>?_)
   rw [run_bind] at h1
   refine wpAny_Slice (step x1 u1 (Y.O fx bf S1 (O.mono x1.s) h1) λ φ2 nw2 H2 w u' s2 S2 x2 y2 hw h2 u2=>?_)
   refine step x2 u2 (Y.O fx bf S2 (O.mono x2.s) h2) λ φ3 nw3 H3 w' u'' s3 S3 x3 y3 hw' h3 u3=>?_
   simp only [evalPart_none]
   refine wpAny_pure ?_
   refine wpAny_mono (sliceV_sound (E:=PostX g c m φ nw X s) fx S3 (VR.mono (y2.trans y3).s _ _ hv) (VR.mono y3.s _ _ hw) hw' h3) (λ r s4 hr=>?_) λ _ _ x=>x
   exact PostE.mono x3 u3 hr
 | Call f args kws pos=>intro h;exact Z.Call fx bf S O h
 | ListComp elt gens sc' pos=>intro h;exact Z.Comp fx bf S O h
 | _=>exact False.elim
theorem I_succ{e:Expr}{P:Bool→Hp→Prop}(Y:Sound hd g call k n)(Z:SoundC hd g call k (n+1))(fx:Fx g c)(bf:BudX hd c X k)(S:St g c m φ nw H s)(O:EnvOk g c env sc ρ m φ nw)
  (h:Run (evE g.K call (n+1) sc ρ e H) (boolP P) X):wpAny (model g.prog g.w) c.A (isTrue e env (eval e env)) (PostG BR g c m φ nw P s) (PostX g c m φ nw X s) s:=by
 have plain:isTrue e env (eval e env)=(do let v ←eval e env;standAt e.pos;holding [v] (truthy v))→wpAny (model g.prog g.w) c.A (isTrue e env (eval e env)) (PostG BR g c m φ nw P s) (PostX g c m φ nw X s) s:=λ he=>
  isTrue_plain (step0 (E_succ Y Z fx bf S O h) λ φ1 nw1 H1 v u s1 S1 x1 hv h1 u1=>by
   refine byC λ nG=>?_
   obtain⟨b,rfl,h1⟩:=h1
   refine nG ?_
   have:=bool_is hv
   rw [this]
   exact wpAny_truthy_bool ⟨φ1,nw1,H1,_,S1,x1,rfl,h1,u1⟩) he
 cases e with
 | UnaryOp op x pos=>
  cases op with
  | Not=>
   have h':Run (evE g.K call n sc ρ x H) (λ a H=>Run ((unV .Not a) H) (boolP P) X) X:=h
   have h2:Run (evE g.K call n sc ρ x H) (boolP λ b h1=>P (!b) h1) X:=h'.mono (λ v h1 hh=>by
    refine(onBool_is hh).elim λ b q=>q.2.elim λ b' k=>⟨b,q.1,?_⟩
    cases k.1;exact k.2) λ _ _ hx=>hx
   refine isTrue_not (step0 (Y.I fx bf S O h2) λ φ1 nw1 H1 b u s1 S1 x1 hb h1 u1=>?_)
   subst hb
   exact⟨φ1,nw1,H1,_,S1,x1,rfl,h1,u1⟩
  | _=>exact plain rfl
 | BoolOp op es pos=>exact Y.IB fx bf S O h
 | IfExp t b o pos=>
  have h':Run (evE g.K call n sc ρ t H) (λ c H=>Run ((asB c >>= λ c=>if c then evE g.K call n sc ρ b else evE g.K call n sc ρ o) H) (boolP P) X) X:=h
  have h2:Run (evE g.K call n sc ρ t H) (boolP λ c h1=>Run ((if c then evE g.K call n sc ρ b else evE g.K call n sc ρ o) h1) (boolP P) X) X:=h'.mono (λ v h1 hh=>by
   exact boolRun hh) λ _ _ hx=>hx
  refine isTrue_IfExp (step0 (Y.I fx bf S O h2) λ φ1 nw1 H1 b u s1 S1 x1 hb h1 u1=>?_)
  subst hb
  cases b with
  | true=>exact fin x1 u1 (Y.I fx bf S1 (O.mono x1.s) h1)
  | false=>exact fin x1 u1 (Y.I fx bf S1 (O.mono x1.s) h1)
 | Compare l ops cs pos=>
  refine(rNoB (b:=lastMarks ops cs) h).elim λ hm h'=>?_
  ·have h':Run (evE g.K call n sc ρ l H) (λ a H=>Run ((evC g.K call n sc ρ a ops cs) H) (boolP P) X) X:=h'
   refine isTrue_Compare_any (step0 (Y.E fx bf S O h') λ φ1 nw1 H1 v u s1 S1 x1 hv h1 u1=>?_) hm
   exact fin x1 u1 (Y.IC fx bf S1 (O.mono x1.s) hv h1)
 | _=>exact plain rfl
theorem sound_succ(Y:Sound hd g call k n)(Z:SoundC hd g call k (n+1)):Sound hd g call k (n+1) where
 E:=λ fx bf S O h=>E_succ Y Z fx bf S O h
 O:=λ fx bf S O h=>O_succ Y fx bf S O h
 L:=λ fx bf S O hs h=>L_succ Y fx bf S O hs h
 K:=λ fx bf S O h=>K_succ Y fx bf S O h
 T:=λ fx bf S O h=>T_succ Y fx bf S O h
 B:=λ fx bf S O h=>B_succ Y fx bf S O h
 C:=λ fx bf S O hv h=>C_succ Y fx bf S O hv h
 I:=λ fx bf S O h=>I_succ Y Z fx bf S O h
 IB:=λ fx bf S O h=>IB_succ Y fx bf S O h
 IC:=λ fx bf S O hv h=>IC_succ Y fx bf S O hv h
end
end VS.Internal
end
section
open PySem PySem.W PySem.Calls PyProof.Rows PySem.SeqAt
set_option backward.match.sparseCases false
set_option maxRecDepth 100000
namespace VS.Internal
theorem plainArgs{pos:Pos}{env:Env}{es:List Expr}:es.any isStar=false→(backTo pos (starEach es env)).any (·.1)=false:=by
 induction es with
 | nil=>exact λ _=>rfl
 | cons e r ih=>
  intro h
  rw [List.any_cons,Bool.or_eq_false_iff] at h
  rw [star_one h.1]
  exact ih h.2
theorem plainKws{pos:Pos}{env:Env}{ks:List Keyword}:ks.any (·.arg.isNone)=false→(backToKw pos (keywordEach ks env)).any (·.1.isNone)=false∧(backToKw pos (keywordEach ks env)).all (·.1.isSome)=true∧(backToKw pos (keywordEach ks env)).filterMap (·.1)=ks.filterMap (·.arg):=by
 induction ks with
 | nil=>exact λ _=>⟨rfl,rfl,rfl⟩
 | cons kw r ih=>
  intro h
  rw [List.any_cons,Bool.or_eq_false_iff] at h
  obtain⟨nm,e,p⟩:=kw
  have q:=ih h.2
  cases nm with
  | none=>cases h.1
  | some x=>exact⟨q.1,q.2.1,congrArg (x :: ·) q.2.2⟩
theorem attr_no{f:Expr}(h:attrPart f=none):Nat.beq f.ctorIdx 20=false:=by
 cases e:Nat.beq f.ctorIdx 20 with
 | false=>rfl
 | true=>
  revert h
  exact PySem.Expr.Attribute.elim f (Nat.eq_of_beq_eq_true e) λ o x p h=>no_some (α:=Expr × PySem.Str × Pos) h.symm
theorem call_alt(f:Expr):∀(args:List Expr) (kws:List Keyword) (pos:Pos) (env:Env),cond (Nat.beq f.ctorIdx 20) True (eval (.Call f args kws pos) env=(do callWith pos (←eval f env) [] (backTo pos (starEach args env)) (backToKw pos (keywordEach kws env)))):=by
 cases f<;>first | exact λ _ _ _ _=>True.intro | exact λ _ _ _ _=>rfl
theorem call_plain{f:Expr}{args:List Expr}{kws:List Keyword}{pos:Pos}{env:Env}(h:attrPart f=none) :
  eval (.Call f args kws pos) env=(do callWith pos (←eval f env) [] (backTo pos (starEach args env)) (backToKw pos (keywordEach kws env))):=by
 have q:=call_alt f args kws pos env
 rw [attr_no h] at q
 exact q
theorem star_cons{e:Expr}{r:List Expr}{env:Env}(h:(e::r).any isStar=false):starEach (e::r) env=(false,eval e env)::starEach r env:=by
 simp only [List.any_cons,Bool.or_eq_false_iff] at h
 exact star_one h.1
section
variable{M:Model}{A:Around}{E:Value→Shared→Prop}{s:Shared}{env:Env}{pos:Pos}{f:Value}{first:List Value}{Q:Value→Shared→Prop}
theorem callWith_any{P:Heap→Prop}{es:List Expr}{kws:List Keyword}(hs:es.any isStar=false)(hk:kws.any (·.arg.isNone)=false)
  (hkp:∀ h,P h→∃ k,(k=Keeper.frame∨k=Keeper.machine∨k=Keeper.boundFrame)∧Looks M h (keeperOf f) k)
  (h:wpAny M A (spliced (backTo pos (starEach es env))) (λ vs s₁=>wpAny M A (evalAll ((backToKw pos (keywordEach kws env)).map (·.2)))
   (λ ks s₂=>P s₂.heap∧wpAny M A (call f (first++vs) ((kws.filterMap (·.arg)).zip ks)) Q E s₂) E s₁) E s) :
  wpAny M A (callWith pos f first (backTo pos (starEach es env)) (backToKw pos (keywordEach kws env))) Q E s:=by
 obtain⟨k1,k2,k3⟩:=plainKws (pos:=pos) (env:=env) hk
 refine callWith_of (by rw [plainArgs hs,k1];rfl) hkp ?_
 rw [←k3] at h
 cases es with
 | nil=>
  refine wpAny_bind (wpAny_mono h (λ vs s₁ h₁=>?_) λ _ _ x=>x)
  refine wpAny_holding ?_
  simp only [k2,if_true]
  refine wpAny_bind (wpAny_mono h₁ (λ ks s₂ h₂=>?_) λ _ _ x=>x)
  exact wpAny_bind (wpAny_pure (wpAny_pure h₂))
 | cons e r=>exact evalArgs_kw2 k2 h (star_cons hs)
theorem method_call{o:Expr}{x:PySem.Str}{apos pos:Pos}{args:List Expr}(hb:okBase o=true)(hs:args.any isStar=false)(hl:(apos.endLine==pos.line)=true)(hn:args.length<30)
  (h:wpAny M A (eval o env) (λ ov s₁=>∀ pl,wpAny M A (getMethod ov x pl) (λ fx s₂=>wpAny M A (callWith pos fx.1 fx.2 (backTo pos (starEach args env)) (backToKw pos (keywordEach [] env))) Q E s₂) E s₁) E s) :
  wpAny M A (eval (.Call (.Attribute o x apos) args [] pos) env) Q E s:=by
 have hform:methodCallForm (args.length+([]:List Keyword).length) (backTo pos (starEach args env)) (backToKw pos (keywordEach [] env))=true:=by
  have h1:(backTo pos (starEach args env)).all (!·.1)=true:=by
   have:=plainArgs (pos:=pos) (env:=env) hs
   rw [List.all_eq_not_any_not]
   simp only [Bool.not_not]
   rw [this];rfl
  unfold methodCallForm
  simp only [h1]
  show(true&&true&&decide (args.length+0+0<30))=true
  simp [hn]
 have hbase:attributeBase o x env (eval o env)=eval o env:=base_eq hb
 show wpAny M A (do
  let ov ←attributeBase o x env (eval o env)
  standAt apos.atName
  methodCall o x apos pos env ov (args.length+([]:List Keyword).length) (backTo pos (starEach args env)) (backToKw pos (keywordEach [] env))) Q E s
 rw [hbase]
 refine wpAny_bind (wpAny_mono h (λ ov s₁ h₁=>wpAny_bind (wpAny_standAt ?_)) λ _ _ x=>x)
 unfold methodCall
 rw [hform]
 refine wpAny_bind (wpAny_holding ?_)
 refine wpAny_mono (h₁ _) (λ fx s₂ h₂=>?_) λ _ _ x=>x
 have hpos:methodCallPos true o env apos pos=pure pos:=by unfold methodCallPos;simp [hl]
 obtain⟨f,first⟩:=fx
 show wpAny M A (methodCallPos true o env apos pos >>= _) _ E s₂
 rw [hpos]
 exact wpAny_bind (wpAny_pure h₂)
end
section
variable{g:G0}{call:CallT}{hd:Bool}{k n:Nat}{c:Cx}{env:Env}{sc:Scope}{ρ:Lo}{m:PySem.Str→Option Value}{φ:Ph}{nw:Nw}{H:Hp}{s:Shared}{X:Addr→Hp→Prop}
theorem typecall_env(C:Addr)(rest:List Value)(kw:List (PySem.Str × Value)):(Code.builtin "type.__call__" ⟨.ref C::rest,kw⟩).envs=[]:=by kernel_rfl
theorem typecall_weight(C:Addr)(rest:List Value)(kw:List (PySem.Str × Value)):(Code.builtin "type.__call__" ⟨.ref C::rest,kw⟩).weight≤4:=by
 have:(Code.builtin "type.__call__" ⟨.ref C::rest,kw⟩).weight=(Code.builtin "type.__call__" ⟨.ref 0::[],[]⟩).weight:=by kernel_rfl
 rw [this];decide +kernel
theorem typecall_units(C:Addr)(rest:List Value)(kw:List (PySem.Str × Value)):(Code.builtin "type.__call__" ⟨.ref C::rest,kw⟩).cUnits≤20:=by
 have:(Code.builtin "type.__call__" ⟨.ref C::rest,kw⟩).cUnits=(Code.builtin "type.__call__" ⟨.ref 0::[],[]⟩).cUnits:=by kernel_rfl
 rw [this];decide +kernel
theorem St.around{A:Around}(S:St g c m φ nw H s)(hh:A.handled=c.A.handled):St g {c with A:=A} m φ nw H s:=⟨S.F,S.N,S.C,S.fo,by
 have:=S.ho
 unfold HOk at this ⊢
 rw [show({c with A:=A}:Cx).A.handled=c.A.handled from hh]
 exact this⟩
theorem St.back{A:Around}(S:St g {c with A:=A} m φ nw H s)(hh:A.handled=c.A.handled):St g c m φ nw H s:=⟨S.F,S.N,S.C,S.fo,by
 have:=S.ho
 unfold HOk at this ⊢
 rw [show({c with A:=A}:Cx).A.handled=c.A.handled from hh] at this
 exact this⟩
theorem Fx.around{A:Around}(fx:Fx g c)(hh:A.frames=c.A.frames):Fx g {c with A:=A}:=⟨fx.X,fx.T,by rw [show({c with A:=A}:Cx).A.frames=c.A.frames from hh];exact fx.fr,fx.hf,fx.hke⟩
theorem run_noexc{α:Type}{t:M α}{P:α→Hp→Prop}(h:Run (noexc t H) P X):Run (t H) P (λ _ _=>False):=h
theorem make_sound{C:Addr}{vs:List V}{us:List Value}{kws:List (PySem.Str × V)}{kus:List (PySem.Str × Value)}{P:V→Hp→Prop}(hc:CallOk hd g call k)(fx:Fx g c)(bf:BudX hd c X k)(S:St g c m φ nw H s)
  (hv:VRs g.K φ nw vs us) (hk:KRs g.K φ nw kws kus) (h:Run (makeV g.K call C vs kws H) P X) :
  wpAny (model g.prog g.w) c.A (PySem.call (.ref C) us kus) (PostE g c m φ nw P s) (PostX g c m φ nw X s) s:=by
   refine byC λ nG=>?_
   obtain⟨hm,h⟩:=rIf h
   rw [Bool.and_eq_true] at hm
   obtain⟨f,hi,h⟩:=onSome_is h
   replace hi:=refF_is hi
   obtain⟨hf,h⟩:=rIf h
   refine nG ?_
   clear nG
   have h1:Run (noexc (call f (.ref H.length::vs) kws) (H++[.inst C []])) (λ v h'=>Run (onNone (M.pure (.ref H.length)) v h') P X) X:=h
   have h2:=run_noexc h1
   clear h h1
   refine wpAny_call (make_K S.F S.N (S.in fx) hm.1 hi (beq_iff_eq.mp hf) λ x dx h' F' N' hlt hdx=>?_)
   have hnd:∀ p∈nw,p.1≠dx:=λ p hp=>Nat.ne_of_lt (hlt p hp)
   have hnx:∀ p∈nw,p.1≠x:=λ p hp=>Nat.ne_of_lt (Nat.lt_trans (hlt p hp) hdx)
   have xt:Ext φ nw (φ++[(x,dx)]) ((x,instObj C dx)::(dx,emptyDict)::nw):=ext_new (λ _ h=>.tail _ (.tail _ h)) hnd
   have hxm:x∉mutA (φ++[(x,dx)]):=λ q=>by
    unfold mutA at q
    rw [List.map_append,List.mem_append] at q
    rcases q with q | q
    ·obtain⟨_,hq⟩:=S.C.owned q
     exact hnx _ hq rfl
    ·simp at q
     exact Nat.ne_of_gt hdx q
   have S':St g c m (φ++[(x,dx)]) ((x,instObj C dx)::(dx,emptyDict)::nw) (H++[.inst C []]) {s with heap:=h'}:=
    ⟨F',N',S.C.new (o:=.inst C []) (λ _ h=>.tail _ (.tail _ h)) hnd ⟨hxm,hm.2,⟨_,.head _,rfl,rfl,rfl⟩,[],0,.tail _ (.head _),rfl⟩,S.fo.mono xt.s,S.ho.mono xt.s⟩
   have hfr:(c.A.under (.builtin "type.__call__" ⟨.ref C::us,kus⟩)).frames=c.A.frames:=by
    unfold Around.under
    dsimp only
    rw [typecall_env];rfl
   have hh:(c.A.under (.builtin "type.__call__" ⟨.ref C::us,kus⟩)).handled=c.A.handled:=rfl
   have w1:=typecall_weight C us kus
   have w2:=typecall_units C us kus
   have bc:BudC (c.A.under (.builtin "type.__call__" ⟨.ref C::us,kus⟩)) k:=by
    obtain⟨b1,b2⟩:=bf.1
    refine⟨?_,?_⟩
    ·exact bud b1 (Nat.le_trans w1 (by decide))
    ·exact bud b2 (Nat.le_trans w2 (by decide))
   have hself:VR g.K (φ++[(x,dx)]) ((x,instObj C dx)::(dx,emptyDict)::nw) (.ref H.length) (.ref x):=⟨x,dx,by rw [←S.C.len];simp,rfl⟩
   have key:=hc _ m _ _ _ _ f _ _ _ _ _ _ (fx.around hfr) ⟨bc,bf.2.noX hh⟩ (S'.around hh) (VRs.cons hself (VRs.mono xt.s _ _ hv)) (KRs.mono xt.s _ _ hk) h2
   refine codeAny_mono key λ r s' z=>?_
   cases r with
   | error e=>
    obtain⟨_,_,_,_,_,_,_,_,_,q,_⟩:=z
    exact q.elim
   | ok fl=>
    cases fl with
    | ret v=>
     refine byC λ nG=>?_
     obtain⟨φ2,nw2,H2,w,S2,x2,hw,h3,u2⟩:=z
     obtain⟨rfl,h3⟩:=onNone_is h3
     refine nG ⟨none_is hw,?_⟩
     have:PostE g c m φ nw P s (.ref x) s':=⟨φ2,nw2,H2,.ref H.length,S2.back hh,xt.trans x2,VR.mono x2.s _ _ hself,h3,Upto.trans ⟨_,s.toks,rfl⟩ u2⟩
     exact this
    | _=>exact z.elim
end
end VS.Internal
end
section
open PySem PySem.W PySem.Calls PyProof.Rows PySem.SeqAt
set_option backward.match.sparseCases false
set_option maxRecDepth 100000
namespace VS.Internal
section
variable{g:G0}{call:CallT}{hd:Bool}{k n:Nat}{c:Cx}{env:Env}{sc:Scope}{ρ:Lo}{m:PySem.Str→Option Value}{φ:Ph}{nw:Nw}{H:Hp}{s:Shared}{X:Addr→Hp→Prop}
theorem callPost_wp{f:Addr}{us:List Value}{kus:List (PySem.Str × Value)}{P:V→Hp→Prop}(h:codeAny (model g.prog g.w) c.A (.call (.ref f) ⟨us,kus⟩) (CallPost g c m φ nw P X s) s) :
  wpAny (model g.prog g.w) c.A (PySem.call (.ref f) us kus) (PostE g c m φ nw P s) (PostX g c m φ nw X s) s:=
 wpAny_call (codeAny_mono h λ r s' z=>by
  cases r with
  | error e=>exact z
  | ok fl=>cases fl<;>exact z)
theorem budC{A:Around}(bf:BudF A k):BudC A k:=⟨Nat.le_trans (Nat.le_add_right _ 8) bf.1,Nat.le_trans (Nat.le_add_right _ 80) bf.2⟩
noncomputable def KeepIs(M:Model)(f:Value)(h:Heap):Prop:=∃ k,(k=Keeper.frame∨k=Keeper.machine∨k=Keeper.boundFrame)∧Looks M h (keeperOf f) k
theorem keep_no{u:Value}(q:vRef u=none):keeperOf u=pure .machine:=by
 revert q
 cases u with
 | ref a=>exact λ q=>nomatch (show some a=none from q)
 | _=>exact λ _=>rfl
theorem callV_sound{v:V}{u:Value}{vs:List V}{us:List Value}{kws:List (PySem.Str × V)}{kus:List (PySem.Str × Value)}{P:V→Hp→Prop}(hc:CallOk hd g call k)(fx:Fx g c)(bf:BudX hd c X k)(S:St g c m φ nw H s)
  (hu:VR g.K φ nw v u) (hv:VRs g.K φ nw vs us) (hk:KRs g.K φ nw kws kus) (h:Run (callV g.K call v vs kws H) P X) :
  KeepIs (model g.prog g.w) u s.heap∧wpAny (model g.prog g.w) c.A (PySem.call u us kus) (PostE g c m φ nw P s) (PostX g c m φ nw X s) s:=by
 refine byC λ nG=>?_
 obtain⟨w,rfl,h1⟩:=onSta_is h
 cases (hu:u=w)
 refine oC (vRef u) (λ q=>?_) λ a q=>?_
 ·rw [q] at h1
  obtain⟨hz,h2⟩:=rIf h1
  cases List.isEmpty_iff.mp hz
  cases (hk:kus=[])
  exact nG ⟨⟨.machine,.inr (.inl rfl),Looks.of_pure (keep_no q)⟩,bcall_sound fx S hv h2⟩
 ·rw [q] at h1
  obtain⟨hz,h2⟩:=rIf h1
  obtain⟨o,_,h3⟩:=onSome_is h2
  cases vRef_is q
  exact nG ⟨keeps_K hz _ (S.in fx),run_ite h3 (λ _ h=>callPost_wp (hc c m φ nw H s a vs us kws kus P X fx ⟨budC bf.1,bf.2⟩ S hv hk h)) λ h=>make_sound hc fx bf S hv hk h⟩
inductive MkR(K:Frag):Mk→V→Value→Prop
 | fn (f:Addr) (v:V) (h:keepIn K (.ref f)=true):MkR K (.fn f) v (.ref f)
 | app (i:Nat):MkR K .app (.ref i) (.builtin "list.append")
theorem methF_sound{v:V}{u:Value}{x:PySem.Str}{P:Mk→Hp→Prop}{E:Value→Shared→Prop}{pl:Sem Bool}{Q:Value × List Value→Shared→Prop}(fx:Fx g c)(S:St g c m φ nw H s)(hu:VR g.K φ nw v u)(h:Run (methF g.K v x H) P X)
  (hQ:∀ mk w,P mk H→MkR g.K mk v w→Q (w,[u]) s):wpAny (model g.prog g.w) A (getMethod u x pl) Q E s:=by
 refine byC λ nG=>?_
 obtain⟨i,rfl,h1⟩:=onRef_is h
 obtain⟨o,ho,h2⟩:=run_getO (i:=i) h1
 clear h h1
 cases o with
 | list xs=>
  obtain⟨⟨hi0,rfl⟩,hP⟩:=rIf h2
  obtain⟨a,ol,us,nl,rfl,hol,hoc,hod,_,_,hdict,_⟩:=list_set (ws:=[]) (f:=id) (tk:=s.toks) S hu ho
  exact nG (getMethod_builtin ⟨_,hol,hoc⟩ PySem.F.plainAttrs_list PySem.F.slot_list_append PySem.F.type_list_append (λ a' e=>by cases e;exact⟨_,hol,hdict.resolve_right hi0⟩) (hQ .app _ hP (.app i)))
 | inst C fs=>
  obtain⟨a,d,sl,es,nn,rfl,h1,h2',h3,h4,h5,h6,I⟩:=inst_is S hu ho
  obtain⟨f,e1,h⟩:=onSome_is h2
  obtain⟨hf,hP⟩:=rIf h
  rw [Bool.and_eq_true,Bool.and_eq_true] at hf
  exact nG (method_inst S.F fx.X I (okCls_is h3 x).1 (refF_is e1) hf.1.2 (h6.getL_none (Option.isNone_iff_eq_none.mp hf.1.1)) (hQ (.fn f) _ hP (.fn f _ hf.2)))
theorem append_upd{prog:Program}{w:World}{A:Around}{E:Value→Shared→Prop}{l:Addr}{o:Obj}{items:Array Value}{ne:Nat}{x:Value}{Q:Value→Shared→Prop}(ho:s.heap.get? l=some o)(hc:o.cls = .type "list") (hd:o.data = .seq items ne)
  (hQ:Q .none {s with heap:=s.heap.update l (Obj.mapSeq (·.push x))}) (hsz:items.size≤sizeLine) :
  wpAny (model prog w) A (PySem.call (.builtin "list.append") [.ref l,x]) Q E s:=by
 refine wpAny_call_entry slot_list_append ⟨_,ho,hc⟩ entry_list_append ?_ (args_list_append _ _)
 show wpAny _ _ (updateSeq l (·.push x) >>= λ _=>ret .none) _ _ s
 refine wpAny_bind ?_
 exact wpAny_updateSeq ho hd (wpAny_pure ⟨.none,rfl,hQ⟩)
theorem methC_sound{mk:Mk}{v:V}{u w:Value}{vs:List V}{us:List Value}{P:V→Hp→Prop}(hc:CallOk hd g call k)(fx:Fx g c)(bf:BudX hd c X k)(S:St g c m φ nw H s)(hu:VR g.K φ nw v u)(hv:VRs g.K φ nw vs us)
  (hw:MkR g.K mk v w) (h:Run (methC call mk v vs H) P X) :
  KeepIs (model g.prog g.w) w s.heap∧wpAny (model g.prog g.w) c.A (PySem.call w (u::us)) (PostE g c m φ nw P s) (PostX g c m φ nw X s) s:=by
 cases hw with
 | fn f v hf=>exact⟨keeps_K hf _ (S.in fx),callPost_wp (hc c m φ nw H s f (v::vs) (u::us) [] [] P X fx ⟨budC bf.1,bf.2⟩ S (VRs.cons hu hv) rfl h)⟩
 | app i=>
  refine⟨⟨.machine,.inr (.inl rfl),Looks.of_pure rfl⟩,?_⟩
  refine byC λ nG=>?_
  obtain⟨v,rfl,h1⟩:=arg1_is h
  obtain⟨u',rfl,hv⟩:=vrs1 hv
  obtain⟨o,ho,h2⟩:=run_getO (i:=i) h1
  obtain⟨xs,rfl,h3⟩:=onL_is h2
  obtain⟨hz,hP⟩:=rIf h3
  obtain⟨a,o,us,nn,rfl,hg,hcl,hd,hx,_,_,hset⟩:=list_set (ws:=xs++[v]) (f:=(·.push u')) (tk:=s.toks) S hu ho
  refine nG (append_upd hg hcl hd ?_ (by simp only [List.size_toArray,hx.length,sizeL];exact Nat.le_trans hz (by decide)))
  obtain⟨nw',S',x⟩:=hset (us++[u']) (by simp) (hx.append hv)
  exact⟨φ,nw',_,.none,S',x,vr_none,hP,⟨_,_,rfl⟩⟩
theorem Call_sound{f:Expr}{args:List Expr}{kws:List Keyword}{pos:Pos}{P:V→Hp→Prop}(hc:CallOk hd g call k)(Y:Sound hd g call k n)(fx:Fx g c)(bf:BudX hd c X k)(S:St g c m φ nw H s)(O:EnvOk g c env sc ρ m φ nw)
  (h:Run (evE g.K call (n+1) sc ρ (.Call f args kws pos) H) P X):wpAny (model g.prog g.w) c.A (eval (.Call f args kws pos) env) (PostG (VR g.K) g c m φ nw P s) (PostX g c m φ nw X s) s:=by
 refine(rNoB (b:=args.any isStar||kws.any (·.arg.isNone)) h).elim λ hst h0=>?_
 obtain⟨hs,hk⟩:=Bool.or_eq_false_iff.mp hst
 refine run_elim (o:=attrPart f) h0 (λ hf h0=>?_) λ p hf h0=>?_
 ·rw [call_plain hf]
  replace h0:Run (evE g.K call n sc ρ f H) (λ f H=>Run ((evL g.K call n sc ρ args >>= λ vs=>evK g.K call n sc ρ kws >>= λ ks=>callV g.K call f vs ks) H) P X) X:=h0
  refine wpAny_bind (step0 (Y.E fx bf S O h0) λ φ1 nw1 H1 v u s1 S1 x1 hv h1 u1=>?_)
  rw [run_bind] at h1
  refine callWith_any (P:=KeepIs (model g.prog g.w) u) hs hk (λ _ p=>p) ?_
  refine step x1 u1 (Y.L fx bf S1 (O.mono x1.s) hs h1) λ φ2 nw2 H2 vs us s2 S2 x2 y2 hvs h2 u2=>?_
  refine step x2 u2 (Y.K fx bf S2 (O.mono x2.s) h2) λ φ3 nw3 H3 ks kus s3 S3 x3 y3 hks h3 u3=>?_
  obtain⟨q1,q2⟩:=callV_sound hc fx bf S3 (VR.mono (y2.trans y3).s _ _ hv) (VRs.mono y3.s _ _ hvs) hks h3
  exact⟨q1,fin x3 u3 q2⟩
 ·obtain⟨o,x,apos⟩:=p
  cases attr_is hf
  refine(rIf h0).elim λ hq h2=>?_
  ·simp only [Bool.and_eq_true,decide_eq_true_eq] at hq
   obtain⟨⟨⟨q1,q2⟩,q3⟩,q4⟩:=hq
   obtain rfl:kws=[]:=List.isEmpty_iff.mp q2
   replace h2:Run (evE g.K call n sc ρ o H) (λ a H=>Run ((methF g.K a x >>= λ mk=>evL g.K call n sc ρ args >>= λ vs=>methC call mk a vs) H) P X) X:=h2
   refine method_call q1 hs q3 q4 (step0 (Y.E fx bf S O h2) λ φ1 nw1 H1 v u s1 S1 x1 hv h1 u1=>λ pl=>?_)
   rw [run_bind] at h1
   refine methF_sound fx S1 hv h1 λ mk w h2 hw=>?_
   dsimp only
   refine callWith_any (P:=KeepIs (model g.prog g.w) w) hs hk (λ _ p=>p) ?_
   refine step x1 u1 (Y.L fx bf S1 (O.mono x1.s) hs h2) λ φ2 nw2 H2 vs us s2 S2 x2 y2 hvs h3 u2=>?_
   refine kwAll_nil ?_
   obtain⟨r1,r2⟩:=methC_sound hc fx bf S2 (VR.mono y2.s _ _ hv) hvs hw h3
   exact⟨r1,fin x2 u2 r2⟩
end
end VS.Internal
end
section
open PySem PySem.W PySem.Calls PyProof.Rows PySem.SeqAt
set_option backward.match.sparseCases false
set_option maxRecDepth 100000
namespace VS.Internal
theorem lk_put_self(x:PySem.Str)(v:V)(ρ:Lo):lk x (put x v ρ)=some v:=by
 induction ρ with
 | nil=>exact if_pos (beq_self_eq_true x)
 | cons p r ih=>
  show lk x (if p.1==x then(p.1,v)::r else p::put x v r)=_
  refine bC (p.1==x) (λ q=>?_) λ q=>?_
  ·rw [if_pos q];exact if_pos q
  ·rw [if_neg (ne_true_of_eq_false q)];exact(if_neg (ne_true_of_eq_false q)).trans ih
theorem lk_put_ne{x y:PySem.Str}(v:V)(hn:y≠x)(ρ:Lo):lk y (put x v ρ)=lk y ρ:=by
 induction ρ with
 | nil=>exact if_neg λ q=>hn (eq_of_beq q).symm
 | cons p r ih=>
  show lk y (if p.1==x then(p.1,v)::r else p::put x v r)=_
  refine bC (p.1==x) (λ q=>?_) λ q=>?_
  ·rw [if_pos q]
   have hz:¬(p.1==y)=true:=λ z=>hn ((eq_of_beq z).symm.trans (eq_of_beq q))
   exact(if_neg hz).trans (if_neg hz).symm
  ·rw [if_neg (ne_true_of_eq_false q)]
   show(if p.1==y then some p.2 else lk y (put x v r))=if p.1==y then some p.2 else lk y r
   rw [ih]
inductive CG(f:PySem.Str × NameKind→List (PySem.Str × Addr)→Sem (ForInStep (List (PySem.Str × Addr))))(ce:PySem.Str→Option Addr)(l:List (PySem.Str × NameKind))(cs:List (PySem.Str × Addr)):Prop
 | mk (cl:List (PySem.Str × Addr)) (e:forIn l cs f=pure cl) (h1:∀ p∈cl,ce p.1=some p.2) (h2:∀ p∈cs,p∈cl) (h3:∀ y,(y,NameKind.free)∈l→∃ a,(y,a)∈cl)
theorem closure_gen{f:PySem.Str × NameKind→List (PySem.Str × Addr)→Sem (ForInStep (List (PySem.Str × Addr)))}{ce:PySem.Str→Option Addr}(f1:∀ n a r,ce n=some a→f (n,.free) r=pure (.yield ((n,a)::r)))(f2:∀ n k r,k≠.free→f (n,k) r=pure (.yield r))
  {l:List (PySem.Str × NameKind)}:∀{cs:List (PySem.Str × Addr)},(∀ p∈l,p.2 = .free→(ce p.1).isSome=true)→(∀ p∈cs,ce p.1=some p.2)→CG f ce l cs:=by
 induction l with
 | nil=>exact λ _ hcs=>⟨_,rfl,hcs,λ _ h=>h,λ y hy=>by cases hy⟩
 | cons q r ih=>
  intro cs hl hcs
  obtain⟨n,k⟩:=q
  by_cases hk:k = .free
  ·subst hk
   refine byC λ nG=>?_
   obtain⟨a,ha⟩:=Option.isSome_iff_exists.mp (hl (n,.free) (.head _) rfl)
   obtain⟨cl,e,h1,h2,h3⟩:=ih (cs:=(n,a)::cs) (λ p hp=>hl p (.tail _ hp)) (λ p hp=>(List.mem_cons.mp hp).elim (λ z=>z▸ha) (hcs p))
   exact nG ⟨cl,by rw [List.forIn_cons,f1 n a cs ha,pure_bind];exact e,h1,λ p hp=>h2 p (.tail _ hp),λ y hy=>(List.mem_cons.mp hy).elim (λ z=>⟨a,(Prod.mk.inj z).1▸h2 _ (.head _)⟩) (h3 y)⟩
  ·cases ih (cs:=cs) (λ p hp=>hl p (.tail _ hp)) hcs with | mk cl e h1 h2 h3=>
   exact⟨cl,by rw [List.forIn_cons,f2 n k cs hk,pure_bind];exact e,h1,h2,λ y hy=>(List.mem_cons.mp hy).elim (λ z=>absurd (Prod.mk.inj z).2.symm hk) (h3 y)⟩
theorem closure_ok{env:Env}(scope:Scope)(h:∀ p∈scope.names,p.2 = .free→(env.cells.lookup p.1).isSome=true) :
  ∃ cl,closureFor scope env=pure cl∧∀ y,(y,NameKind.free)∈scope.names→cl.lookup y=env.cells.lookup y:=by
 cases closure_gen (f:=λ(x:PySem.Str × NameKind) (r:List (PySem.Str × Addr))=>(if(x.2 == .free)=true then do let c ←cellOf env x.1;pure (ForInStep.yield ((x.1,c)::r)) else pure (ForInStep.yield r):Sem _)) (ce:=λ y=>env.cells.lookup y)
  (λ n a r ha=>by
   show(do let c ←cellOf env n;pure (ForInStep.yield ((n,c)::r)):Sem _)=_
   unfold cellOf
   rw [ha];rfl)
  (λ n k r hk=>if_neg (by simpa using hk)) (cs:=[]) h (λ p hp=>by cases hp) with | mk cl e h1 h2 h3=>
 refine⟨cl,?_,λ y hy=>(h3 y hy).elim λ a ha=>oC (cl.lookup y) (λ q=>absurd (List.lookup_eq_none_iff.mp q _ ha) (by simp)) λ b hb=>hb.trans (h1 _ (mem_of_lookup hb)).symm⟩
 unfold closureFor
 rw [←e]
 first
  | rfl
  | (simp only [bind_pure];rfl)
  | (show(forIn _ _ _ >>= λ r=>pure r)=_;rw [bind_pure])
section
variable{g:G0}{c:Cx}{m:PySem.Str→Option Value}{φ φ₀:Ph}{nw nw₀:Nw}{H:Hp}{s:Shared}{X:Addr→Hp→Prop}
theorem ExtV.trans{φ φ' φ'':Ph}{nw nw' nw'':Nw}(x:ExtV φ nw φ' nw')(y:ExtV φ' nw' φ'' nw''):ExtV φ nw φ'' nw'':=
 ⟨x.pre.trans y.pre,λ p h n hs=>by
  obtain⟨h1 | ⟨⟨es,k,h1⟩,sl,h1'⟩,h2⟩:=x.kx p h n hs
  ·exact y.kx p h1 h2 hs
  ·obtain⟨h3 | ⟨_,sl',h3⟩,h4⟩:=y.kx _ h1' h2 hs
   ·exact⟨.inr ⟨⟨es,k,h1⟩,sl,h3⟩,h4⟩
   ·exact⟨.inr ⟨⟨es,k,h1⟩,sl',h3⟩,h4⟩⟩
theorem extV_but(S:St g c m φ nw H s){I:Addr}{o:Obj}{nw':Nw}(hI:(I,o)∈nw)(hn:¬ Val o)(hs:∀ p∈nw,p.1≠I→p∈nw'):ExtV φ nw φ nw':=
 ⟨List.prefix_refl _,λ p h n sol=>⟨.inl (hs p h λ q=>hn (by obtain⟨a,ob⟩:=p;dsimp only at q;subst q;exact same_obj S h hI▸sol)),n⟩⟩
theorem ext_off{nw':Nw}{I:Addr}(x:Ext φ₀ nw₀ φ nw)(h0:∀ p∈nw₀,p.1≠I)(hs:∀ p∈nw,p.1≠I→p∈nw'):Ext φ₀ nw₀ φ nw':=
 ⟨x.pre,λ p h n=>by
  obtain⟨h1 | ⟨q,sl,h1⟩,h2⟩:=x.kx p h n
  ·exact⟨.inl (hs p h1 (h0 p h)),h2⟩
  ·exact⟨.inr ⟨q,sl,hs _ h1 (h0 p h)⟩,h2⟩⟩
theorem st_own(S:St g c m φ nw H s)(f0:FrsOk φ₀ nw₀ c.outer)(o0:HOk c.A φ₀ nw₀)(x:Ext φ₀ nw₀ φ nw){I:Addr}{o o':Obj}(h0:∀ p∈nw₀,p.1≠I)(hI:(I,o)∈nw)(hn:¬ Val o)(hm:I∉mutA φ){h':Heap}{tk:Nat}(hk:Heap.SameBut I s.heap h')(ho:h'.get? I=some o') :
  St g c m φ (nset nw I o') H {s with heap:=h',toks:=tk}∧ExtV φ nw φ (nset nw I o')∧Ext φ₀ nw₀ φ (nset nw I o'):=by
 have D:=S.N _ hI
 have y:=extV_but S hI hn (nw':=nset nw I o') λ p h q=>mem_nset h q
 have z:=ext_off x h0 (nw':=nset nw I o') λ p h q=>mem_nset h q
 refine⟨⟨S.F.change hk D.2.1 D.2.2,λ p hp=>?_,S.C.chgV y λ d hd ob h=>mem_nset h λ q=>hm (q▸hd),f0.mono z.s,o0.mono z.s⟩,y,z⟩
 rcases List.mem_cons.mp hp with rfl | hp
 ·exact⟨ho,D.2⟩
 ·have P:=S.N _ (List.mem_filter.mp hp).1
  exact⟨(hk.2 _ (filter_ne p hp)).trans P.1,P.2⟩
theorem st_off(S:St g c m φ nw H s)(f0:FrsOk φ₀ nw₀ c.outer)(o0:HOk c.A φ₀ nw₀)(x:Ext φ₀ nw₀ φ nw){I:Addr}{o:Obj}(h0:∀ p∈nw₀,p.1≠I)(hI:(I,o)∈nw)(hn:¬ Val o)(hm:I∉mutA φ) :
  St g c m φ (ndrop nw I) H s∧ExtV φ nw φ (ndrop nw I)∧Ext φ₀ nw₀ φ (ndrop nw I):=by
 have y:=extV_but S hI hn (nw':=ndrop nw I) λ p h q=>mem_ndrop h q
 have z:=ext_off x h0 (nw':=ndrop nw I) λ p h q=>mem_ndrop h q
 exact⟨⟨S.F,λ p hp=>S.N _ (of_ndrop hp).1,S.C.chgV y λ d hd ob h=>mem_ndrop h λ q=>hm (q▸hd),f0.mono z.s,o0.mono z.s⟩,y,z⟩
end
end VS.Internal
end
section
open PySem PySem.W PySem.Calls PyProof.Rows PySem.SeqAt
set_option backward.match.sparseCases false
set_option maxRecDepth 100000
namespace VS.Internal
theorem lookup_relab{b:PySem.Str→NameKind→Bool}{x:PySem.Str}{names:List (PySem.Str × NameKind)}:(names.map λ(n,k)=>if b n k then(n,NameKind.cell) else(n,k)).lookup x=(names.lookup x).map λ k=>if b x k then .cell else k:=by
 induction names with
 | nil=>rfl
 | cons p r ih=>
  obtain⟨n,k⟩:=p
  have e:(if b n k then(n,NameKind.cell) else(n,k))=(n,if b n k then .cell else k):=by cases b n k<;>rfl
  show List.lookup x ((if b n k=true then(n,NameKind.cell) else(n,k))::_)=_
  rw [e,List.lookup_cons,List.lookup_cons]
  cases hx:x==n with
  | true=>rw [eq_of_beq hx];rfl
  | false=>exact ih
theorem relabel_other{env:Env}{kd:NameKind}(hk:kd≠.free){names:List (PySem.Str × NameKind)}{x:PySem.Str}(h:names.lookup x=some kd) :
  (names.map λ(n,k)=>if(k==NameKind.free&&env.scope.kind == .function&&env.kindOf n==some .cell) then(n,NameKind.cell) else(n,k)).lookup x=some kd:=by
 refine(lookup_relab (b:=λ n k=>k==NameKind.free&&env.scope.kind == .function&&env.kindOf n==some .cell)).trans ?_
 rw [h]
 exact congrArg some (if_neg (by simp [hk]))
theorem relabel_free{env:Env}{names:List (PySem.Str × NameKind)}{x:PySem.Str}(h:names.lookup x=some .free) :
  (names.map λ(n,k)=>if(k==NameKind.free&&env.scope.kind == .function&&env.kindOf n==some .cell) then(n,NameKind.cell) else(n,k)).lookup x=some .cell∨
  (names.map λ(n,k)=>if(k==NameKind.free&&env.scope.kind == .function&&env.kindOf n==some .cell) then(n,NameKind.cell) else(n,k)).lookup x=some .free:=by
 have e:_=Option.map _ _:=lookup_relab (x:=x) (names:=names) (b:=λ n k=>k==NameKind.free&&env.scope.kind == .function&&env.kindOf n==some .cell)
 rw [e,h]
 exact bC (NameKind.free==NameKind.free&&env.scope.kind == .function&&env.kindOf x==some .cell) (λ q=>.inl (congrArg some (if_pos q))) λ q=>.inr (congrArg some (if_neg (ne_true_of_eq_false q)))
theorem set_alt(i:Expr):cond (Nat.beq i.ctorIdx 7) True (∀ env v,foldedSetIterable i env v=pure v):=by
 cases i<;>first | exact True.intro | exact λ _ v=>(rfl:(pure v:Sem Value)=pure v)
theorem set_no{i:Expr}(h:(!Nat.beq i.ctorIdx 7)=true)(env:Env)(v:Value):foldedSetIterable i env v=pure v:=by
 have q:=set_alt i
 cases e:Nat.beq i.ctorIdx 7 with
 | false=>rw [e] at q;exact q env v
 | true=>rw [e] at h;exact nomatch h
structure OkComp(sc sc':Scope)(ρ:Lo)(x:PySem.Str)(iter:Expr):Prop where
 st:∀ env v,foldedSetIterable iter env v=pure v
 kind:sc'.kind = .function
 hx:sc'.names.lookup x=some .local
 cell:∀ p∈sc'.names,p.2≠.cell
 loc:∀ p∈sc'.names,p.2 = .local→sc'.names.lookup p.1=some .local∧(p.1=x∨lk p.1 ρ=none)
 free:∀ p∈sc'.names,p.2 = .free→(sc.names.lookup p.1=some .cell∨sc.names.lookup p.1=some .free)∧∃ v,lk p.1 ρ=some v
theorem okComp_is{sc sc':Scope}{ρ:Lo}{x:PySem.Str}{iter:Expr}(h:okComp sc sc' ρ x iter=true):OkComp sc sc' ρ x iter:=by
 unfold okComp at h
 simp only [Bool.and_eq_true,List.all_eq_true,beq_iff_eq,bne_iff_ne,Bool.or_eq_true] at h
 refine byC λ nG=>?_
 obtain⟨⟨⟨h1,h2⟩,h3⟩,h4⟩:=h
 refine nG ?_
 refine⟨λ env v=>?_,h2,h3,λ p hp=>(h4 p hp).1.1,λ p hp hk=>?_,λ p hp hk=>?_⟩
 ·exact set_no h1 env v
 ·rcases(h4 p hp).1.2 with q | ⟨q1,q2⟩
  ·exact absurd hk q
  ·exact⟨q1,q2.imp id λ z=>by simpa using z⟩
 ·rcases(h4 p hp).2 with q | ⟨q1,q2⟩
  ·exact absurd hk q
  ·exact⟨q1,Option.isSome_iff_exists.mp q2⟩
section
variable{g:G0}{call:CallT}{hd:Bool}{k n:Nat}{c:Cx}{env:Env}{sc sc':Scope}{ρ:Lo}{m:PySem.Str→Option Value}{φ φ₀:Ph}{nw nw₀:Nw}{H:Hp}{s:Shared}{X:Addr→Hp→Prop}{x:PySem.Str}{iter:Expr}
theorem comp_cells(O:EnvOk g c env sc ρ m φ nw)(K:OkComp sc sc' ρ x iter):∃ cl,closureFor sc' env=pure cl∧∀ y,(y,NameKind.free)∈sc'.names→cl.lookup y=env.cells.lookup y:=
 closure_ok sc' λ p hp hk=>by
  refine byC λ nG=>?_
  obtain⟨q,v,hv⟩:=K.free p hp hk
  obtain⟨cc,_,_,h1,_⟩:=O.cel p.1 v q hv
  refine nG ?_
  rw [h1];rfl
theorem comp_env{cl:List (PySem.Str × Addr)}{C:Addr}{oC:Obj}{mC:PySem.Str→Option Value}{v:V}{u:Value}(O:EnvOk g c env sc ρ m φ nw)(K:OkComp sc sc' ρ x iter)(hcl:∀ y,(y,NameKind.free)∈sc'.names→cl.lookup y=env.cells.lookup y)
  (hC:(C,oC)∈nw) (hCm:C∉mutA φ) (hN:ObjNs oC mC) (hx:mC x=some u) (hv:VR g.K φ nw v u):EnvOk g c (compEnvC sc' cl C env) sc' (put x v ρ) m φ nw where
 kind:=K.kind
 glob:=O.glob
 bi:=O.bi
 frm:=O.frm
 scl:=λ y hy=>lookup_relabel_local hy
 scg:=λ y hy=>relabel_other (by decide) hy
 scc:=λ y hy=>by
  rcases hy with hy | hy
  ·exact absurd rfl (K.cell _ (mem_of_lookup hy))
  ·exact relabel_free hy
 loc:=.inr ⟨oC,mC,hC,hCm,hN,λ y w hy e=>by
  rcases(K.loc _ (mem_of_lookup hy) rfl).2 with q | q
  ·dsimp only at q
   subst q
   rw [lk_put_self] at e;cases e
   exact⟨u,hx,hv⟩
  ·by_cases hyx:y=x
   ·subst hyx
    rw [lk_put_self] at e;cases e
    exact⟨u,hx,hv⟩
   ·rw [lk_put_ne _ hyx,q] at e;cases e⟩
 cel:=λ y w hy e=>by
  rcases hy with hy | hy
  ·exact absurd rfl (K.cell _ (mem_of_lookup hy))
  ·have hyx:y≠x:=λ q=>by rw [q,K.hx] at hy;exact nomatch hy
   rw [lk_put_ne _ hyx] at e
   refine byC λ nG=>?_
   obtain⟨q,_⟩:=K.free _ (mem_of_lookup hy) rfl
   obtain⟨cc,o,u',h1,h2⟩:=O.cel y w q e
   refine nG ?_
   exact⟨cc,o,u',(hcl y (mem_of_lookup hy)).trans h1,h2⟩
theorem ns_obj{h:Heap}{C:Addr}{mC:PySem.Str→Option Value}(hn:h.Ns C mC):∃ o,h.get? C=some o∧ObjNs o mC:=by
 refine byC λ nG=>?_
 obtain⟨o,es,ep,h1,h2,h3,h4⟩:=hn
 refine nG ?_
 exact⟨o,h1,es,ep,h2,h3,h4⟩
theorem obj_ns{h:Heap}{C:Addr}{oC:Obj}{mC:PySem.Str→Option Value}(h1:h.get? C=some oC)(hN:ObjNs oC mC):h.Ns C mC:=by
 refine byC λ nG=>?_
 obtain⟨es,ep,h2,h3,h4⟩:=hN
 refine nG ?_
 exact⟨oC,es,ep,h1,h2,h3,h4⟩
theorem ns_noVal{oC:Obj}{mC:PySem.Str→Option Value}(hN:ObjNs oC mC):¬ Val oC:=by
 refine byC λ nG=>?_
 obtain⟨es,ep,h2,_⟩:=hN
 refine nG ?_
 exact noV h2 rfl
theorem list_noVal{xs:Array Value}{n:Nat}:¬ Val (listOf xs n):=by
 rintro (⟨q,_⟩ | ⟨q,_⟩ | ⟨⟨a,q⟩,_⟩)
 ·exact absurd (Value.type.inj q) (by decide)
 ·exact absurd (Value.type.inj q) (by decide)
 ·cases q
structure CI(g:G0)(c:Cx)(m:PySem.Str→Option Value)(φ₀:Ph)(nw₀:Nw)(s₀:Shared)(I D C:Addr)(src:Src)(kk:Nat)(ws:List V)(φ:Ph)(nw:Nw)(H:Hp)(s:Shared):Prop where
 S:St g c m φ nw H s
 x:Ext φ₀ nw₀ φ nw
 u:Upto s₀ s
 it:IterOk g.K src kk φ nw I
 im:I∉mutA φ
 acc:∃ xs n,(D,listOf xs.toArray n)∈nw∧VRs g.K φ nw ws xs
 dm:D∉mutA φ
 cd:∃ oC mC,(C,oC)∈nw∧ObjNs oC mC
 cm:C∉mutA φ
 len:ws.length≤500
end
section
variable{g:G0}{call:CallT}{hd:Bool}{k n:Nat}{c:Cx}{env:Env}{sc sc':Scope}{ρ:Lo}{m:PySem.Str→Option Value}{φ₀:Ph}{nw₀:Nw}{s₀:Shared}{X:Addr→Hp→Prop}{x:PySem.Str}{iter elt:Expr}{ifs:List Expr}{px pos:Pos}
 {I D C:Addr}{src:Src}{cl:List (PySem.Str × Addr)}{RR:Result→Shared→Prop}
theorem noX{E:Value→Shared→Prop}{φ:Ph}{nw:Nw}{s:Shared}(u:Value)(s':Shared)(h:PostX g c m φ nw (λ _ _=>False) s u s'):E u s':=by
 obtain⟨_,_,_,_,_,_,_,_,_,q,_⟩:=h
 exact q.elim
noncomputable def eltM(K:Frag)(call:CallT)(n:Nat)(sc':Scope)(ρ:Lo)(x:PySem.Str)(ifs:List Expr)(elt:Expr):V→M (Option V):=λ v=>do
 let t ←evT K call n sc' (put x v ρ) ifs
 if t then do let r ←evE K call n sc' (put x v ρ) elt;pure (some r) else pure none
inductive CV(g:G0)(c:Cx)(m:PySem.Str→Option Value)(φ₀:Ph)(nw₀:Nw)(s₀:Shared)(I D C:Addr)(src:Src)(em:V→M (Option V))(P:List V→Hp→Prop)(X:Addr→Hp→Prop)(fuel:Nat)(s:Shared):Prop
 | mk (kk:Nat) (ws:List V) (φ:Ph) (nw:Nw) (H:Hp) (J:CI g c m φ₀ nw₀ s₀ I D C src kk ws φ nw H s) (hlen:ws.length+fuel≤500) (h:Run (compLoop fuel src kk em H) (λ rest h=>P (ws++rest) h) X)
theorem comp_loop{P:List V→Hp→Prop}(Y:Sound hd g call k n)(fx:Fx g c)(bf:BudX hd c X k)(f0:FrsOk φ₀ nw₀ c.outer)(o0:HOk c.A φ₀ nw₀)(O₀:EnvOk g c env sc ρ m φ₀ nw₀)(K:OkComp sc sc' ρ x iter)
  (hcl:∀ y,(y,NameKind.free)∈sc'.names→cl.lookup y=env.cells.lookup y)
  (hI0:∀ p∈nw₀,p.1≠I) (hD0:∀ p∈nw₀,p.1≠D) (hC0:∀ p∈nw₀,p.1≠C) (hCI:C≠I) (hCD:C≠D) (hID:I≠D)
  (done:∀ kk ws φ nw H s,(∃ s₁ nw₁,CI g c m φ₀ nw₀ s₀ I D C src kk ws φ nw₁ H s₁)→St g c m φ nw H s→Ext φ₀ nw₀ φ nw→Upto s₀ s→(∃ xs n,(D,listOf xs.toArray n)∈nw∧VRs g.K φ nw ws xs)→D∉mutA φ→(∃ oC mC,(C,oC)∈nw∧ObjNs oC mC)→C∉mutA φ→ws.length≤500→P ws H→RR (.ok .next) s)
  (fuel kk:Nat) (ws:List V) (φ:Ph) (nw:Nw) (H:Hp) (s:Shared) (J:CI g c m φ₀ nw₀ s₀ I D C src kk ws φ nw H s) (hlen:ws.length+fuel≤500)
  (h:Run (compLoop fuel src kk (eltM g.K call n sc' ρ x ifs elt) H) (λ rest h=>P (ws++rest) h) X) :
  codeAny (model g.prog g.w) c.A (.compLoop (.ListComp elt [⟨.Name x px,iter,ifs,0⟩] sc' pos) 0 (.ref I) (.ref D) (compEnvC sc' cl C env)) RR s:=by
 refine byC λ nG=>?_
 obtain⟨em,hem⟩:∃ em,em=eltM g.K call n sc' ρ x ifs elt:=⟨_,rfl⟩
 refine nG ?_
 rw [←hem] at h
 obtain⟨Inv,back,dest⟩:∃ Inv:Nat→Shared→Prop,(∀ fuel s,CV g c m φ₀ nw₀ s₀ I D C src em P X fuel s→Inv fuel s)∧∀ fuel s,Inv fuel s→CV g c m φ₀ nw₀ s₀ I D C src em P X fuel s:=⟨_,λ _ _ h=>h,λ _ _ h=>h⟩
 refine codeAny_compLoop_tests Inv (λ fuel s hI=>?_) fuel (back _ _ ⟨_,_,_,_,_,J,hlen,h⟩)
 clear J h hlen
 replace hI:=dest _ _ hI
 clear dest
 refine byC λ nG=>?_
 obtain⟨kk,ws,φ,nw,H,J,hlen,h⟩:=hI
 cases fuel with
 | zero=>exact h.elim
 | succ fuel=>
 obtain⟨r,e,h0⟩:=turn_is (e:=M.pure []) (f:=λ v=>M.bind (noexc (em v)) λ r=>M.bind (compLoop fuel src (kk+1) em) λ rest=>M.pure (match r with | some x=>x::rest | none=>rest)) h
 clear h
 obtain⟨oC,mC,hC,hN⟩:=J.cd
 obtain⟨xs,nD,hD,hws⟩:=J.acc
 refine nG ?_
 refine wpAny_mono (next_sound (E:=λ _ _=>False) fx J.S J.it J.im e) (λ q s1 hq=>?_) λ _ _ z=>z.elim
 cases hq with
 | fin nw1 u1 hk1 y1 S1 hr hq=>
  subst hr hq
  have hP:P (ws++[]) H:=h0
  rw [List.append_nil] at hP
  exact done kk ws φ nw1 H s1 ⟨s,nw,J⟩ S1 (ext_off J.x hI0 hk1) (J.u.trans u1) ⟨xs,nD,hk1 _ hD (Ne.symm hID),VRs.mono y1 _ _ hws⟩ J.dm ⟨oC,mC,hk1 _ hC hCI,hN⟩ J.cm J.len hP
 | stp nw1 u1 hk1 y1 S1 v xv hr hq hv hit1=>
  subst hr hq
  have x1:Ext φ₀ nw₀ φ nw1:=ext_off J.x hI0 hk1
  have hC1:(C,oC)∈nw1:=hk1 _ hC hCI
  have hD1:(D,listOf xs.toArray nD)∈nw1:=hk1 _ hD (Ne.symm hID)
  have hws1:=VRs.mono y1 _ _ hws
  refine wpAny_assign_Name (wpAny_storeName_local (lookup_relabel_local K.hx) (obj_ns (S1.N _ hC1).1 hN) (λ h2 hn2 hs2=>?_) (by show(sc'.kind == .class||(sc'.kind == .module&&_))=false;rw [K.kind];rfl))
  refine byC λ nG=>?_
  obtain⟨oC2,hoC2,hN2⟩:=ns_obj hn2
  obtain⟨S2,v2,x2⟩:=st_own (tk:=s1.toks+1) S1 f0 o0 x1 hC0 hC1 (ns_noVal hN) J.cm hs2 hoC2
  refine nG ?_
  have it2:IterOk g.K src (kk+1) φ (nset nw1 C oC2) I:=hit1.chg v2 λ o h=>mem_nset h (Ne.symm hCI)
  have hD2:(D,listOf xs.toArray nD)∈nset nw1 C oC2:=mem_nset hD1 (Ne.symm hCD)
  have hv2:=VR.monoV v2 _ _ hv
  have hws2:=VRs.monoV v2 _ _ hws1
  have u2:Upto s₀ {s1 with heap:=h2,toks:=s1.toks+1}:=(J.u.trans u1).trans ⟨_,_,rfl⟩
  have O2:=comp_env (O₀.mono x2.s) K hcl mem_nset_self J.cm hN2 (by simp) hv2
  have h1:Run (em v H) (λ r H=>Run ((M.bind (compLoop fuel src (kk+1) em) λ rest=>M.pure (match r with | some x=>x::rest | none=>rest)) H) (λ rest h=>P (ws++rest) h) X) (λ _ _=>False):=h0
  clear h0
  rw [congrFun hem v] at h1
  refine wpAny_mono (Y.T fx bf.noX S2 O2 h1) (λ ok s3 hq=>?_) noX
  obtain⟨φ3,nw3,H3,t,S3,x3,rfl,h3,u3⟩:=hq
  have it3:=it2.mono x3 J.im
  have im3:I∉mutA φ3:=(x3.dc _ it2.obj.choose_spec.1 J.im).2
  obtain⟨⟨sl3,cc3⟩,cm3⟩:=x3.dc _ (mem_nset_self (nw:=nw1) (d:=C) (o:=oC2)) J.cm
  have hN3:ObjNs {oC2 with slots:=sl3} _:=hN2
  have dd3:=x3.ex _ hD2 J.dm (λ es k q=>by cases q)
  have x03:=x2.trans x3
  refine iteP (λ ht=>?_) λ hf=>?_
  rotate_left
  ·cases eq_false_of_ne_true hf
   exact⟨fuel,Nat.lt_succ_self _,back _ _ ⟨_,_,_,_,_,⟨S3,x03,u2.trans u3,it3,im3,⟨xs,nD,dd3.1,VRs.mono x3.s _ _ hws2⟩,dd3.2,⟨_,_,cc3,hN3⟩,cm3,J.len⟩,Nat.le_of_succ_le hlen,h3⟩⟩
  ·cases ht
   refine wpAny_mono (Y.E fx bf.noX S3 (O2.mono x3.s) h3) (λ y s4 hq=>?_) noX
   refine byC λ nG=>?_
   obtain⟨φ4,nw4,H4,r,S4,x4,hr,h4,u4⟩:=hq
   refine nG ?_
   have it4:=it3.mono x4 im3
   have im4:I∉mutA φ4:=(x4.dc _ it3.obj.choose_spec.1 im3).2
   refine byC λ nG=>?_
   obtain⟨⟨sl4,cc4⟩,cm4⟩:=x4.dc _ cc3 cm3
   refine nG ?_
   have hN4:ObjNs {{oC2 with slots:=sl3} with slots:=sl4} _:=hN3
   have dd4:=x4.ex _ dd3.1 dd3.2 (λ es k q=>by cases q)
   have x04:=x03.trans x4
   have hws4:=VRs.mono (x3.trans x4).s _ _ hws2
   have hl4:=hws4.length
   have hsz:xs.toArray.size≤sizeLine:=by simp only [List.size_toArray,hl4,sizeL];have:=J.len;exact Nat.le_trans (by assumption) (by decide)
   refine append_upd (S4.N _ dd4.1).1 rfl rfl ?_ hsz
   have ho':(s4.heap.update D (Obj.mapSeq (·.push y))).get? D=some (listOf (xs++[y]).toArray (nD+1)):=by
    rw [Heap.get?_update_self _ (S4.N _ dd4.1).1 (by rw [Obj.mapSeq_push_plain];rfl),Obj.mapSeq_push_plain]
    simp
   refine byC λ nG=>?_
   obtain⟨S5,v5,x5⟩:=st_own (tk:=s4.toks) S4 f0 o0 x04 hD0 dd4.1 list_noVal dd4.2 (Heap.SameBut.update ..) ho'
   refine nG ?_
   have h4:Run (compLoop fuel src (kk+1) em H4) (λ rest h=>P (ws++r::rest) h) X:=h4
   exact⟨fuel,Nat.lt_succ_self _,back _ _ ⟨kk+1,ws++[r],φ4,_,H4,⟨S5,x5,(u2.trans u3).trans (u4.trans ⟨_,_,rfl⟩),it4.chg v5 λ o h=>mem_nset h hID,im4,⟨xs++[y],nD+1,mem_nset_self,VRs.monoV v5 _ _ (hws4.append (VRs.one hr))⟩,dd4.2,
    ⟨_,_,mem_nset cc4 hCD,hN4⟩,cm4,by rw [List.length_append];exact Nat.le_trans (Nat.add_le_add_left (Nat.le_add_left 1 fuel) _) hlen⟩,by rw [List.length_append];exact Nat.add_right_comm _ _ _▸hlen,h4.mono (λ rest h hp=>by rw [List.append_assoc];exact hp) λ _ _ z=>z⟩⟩
end
end VS.Internal
end
section
open PySem PySem.W PySem.Calls PyProof.Rows PySem.SeqAt
set_option backward.match.sparseCases false
set_option maxRecDepth 100000
namespace VS.Internal
section
variable{g:G0}{call:CallT}{hd:Bool}{k n:Nat}{c:Cx}{env:Env}{sc sc':Scope}{ρ:Lo}{m:PySem.Str→Option Value}{φ:Ph}{nw:Nw}{H:Hp}{s:Shared}{X:Addr→Hp→Prop}{x:PySem.Str}{iter elt:Expr}{ifs:List Expr}{px pos:Pos}
theorem iter_again{src:Src}{kk:Nat}{I:Addr}{A:Around}{E:Value→Shared→Prop}{Q:Value→Shared→Prop}(S:St g c m φ nw H s)(h:IterOk g.K src kk φ nw I)(hQ:Q (.ref I) s):wpAny (model g.prog g.w) A (pyIter (.ref I)) Q E s:=by
 cases h with | mk o m d=>
 have m:=(S.N _ m).1
 cases src with
 | lst i=>exact Exists.elim d λ a d=>wpAny_pyIter_listiter (l:=a) (i:=kk) ⟨o,m,d.2⟩ hQ
 | tup vs=>exact Exists.elim d λ a d=>d.elim λ _ d=>wpAny_pyIter_tupleiter (t:=a) (i:=kk) ⟨o,m,d.2⟩ hQ
 | rng n=>exact wpAny_pyIter_rangeiter (m.trans (congrArg some d)) hQ
 | byt b=>exact Exists.elim d λ t d=>KBw.pyIter_self (b:=b) (t:=t) (i:=kk) ⟨o,m,d⟩ hQ
theorem comp_core{P:V→Hp→Prop}{RR:Value→Addr→Result→Shared→Prop}(Y:Sound hd g call k n)(fx:Fx g c)(bf:BudX hd c X k)(S:St g c m φ nw H s)(O:EnvOk g c env sc ρ m φ nw)(K:OkComp sc sc' ρ x iter)
  {cl:List (PySem.Str × Addr)} (hcl:∀ y,(y,NameKind.free)∈sc'.names→cl.lookup y=env.cells.lookup y)
  (h:Run ((evE g.K call n sc ρ iter >>= λ s=>toSrc s >>= λ src=>compLoop 200 src 0 (eltM g.K call n sc' ρ x ifs elt) >>= λ vs=>alloc (.list vs)) H) P X)
  (hR:∀ D C φ' nw' H' s' mC v,St g c m φ' nw' H' s'→Ext φ nw φ' nw'→Upto s s'→VR g.K φ' nw' v (.ref D)→P v H'→c.b₀.get? C=none→C≠c.L→(∀ p∈nw',p.1≠C)→C∉mutA φ'→s'.heap.Ns C mC→RR (.ref D) C (.ok .next) s') :
  wpAny (model g.prog g.w) c.A (eval iter env) (λ xv s₁=>wpAny (model g.prog g.w) c.A (pyIter xv) (λ it s₂=>wpAny (model g.prog g.w) c.A (newList []) (λ acc s₃=>
   wpAny (model g.prog g.w) c.A (newFunctionEnv sc' env.globals cl [] env.qual none .none (some env)) (λ cenv s₄=>
    codeAny (model g.prog g.w) c.A (.compStart (.ListComp elt [⟨.Name x px,iter,ifs,0⟩] sc' pos) 0 it acc {cenv with scope:=relabel sc' env}) (RR acc cenv.locals) s₄) (PostX g c m φ nw X s) s₃) (PostX g c m φ nw X s) s₂) (PostX g c m φ nw X s) s₁) (PostX g c m φ nw X s) s:=by
 rw [run_bind] at h
 refine step0 (Y.E fx bf S O h) λ φ1 nw1 H1 v u s1 S1 x1 hv h1 u1=>?_
 rw [run_bind] at h1
 refine wpAny_mono (iter_sound (E:=PostX g c m φ nw X s) fx S1 hv h1) (λ it s2 hq=>?_) λ _ _ z=>z
 refine byC λ nG=>?_
 obtain⟨I,oI,src,rfl,S2,it2,hI1,im2,h2,u2⟩:=hq
 refine nG ?_
 refine wpAny_newObj_type ?_ (by show([]:List Value).toArray.size≤sizeLine;simp)
 refine wpAny_newFunctionEnv K.cell (by intro y hy;simp at hy) (λ h₁ hns₁ hsb₁=>?_) K.kind
 dsimp only at hns₁ hsb₁ ⊢
 generalize hH2:s2.heap.push {cls:=.type "list",dict:=none,data:=.seq ([]:List Value).toArray}=H2 at hns₁ hsb₁ ⊢
 have hC:H2.objs.size=s2.heap.objs.size+1:=by rw [←hH2,Heap.size_push]
 have hDC:s2.heap.objs.size≠H2.objs.size:=by simp only [hC];exact Nat.ne_of_lt (Nat.lt_succ_self _)
 have old:∀ b o,s2.heap.get? b=some o→h₁.get? b=some o:=λ b o e=>hsb₁.extBut b o (by have:=Heap.lt_size e;simp only [hC];exact Nat.ne_of_lt (Nat.lt_succ_of_lt this)) (Heap.get?_push_of_some _ (hH2▸Heap.get?_push_of_some _ e))
 have hDg:h₁.get? s2.heap.objs.size=some (listOf ([]:List Value).toArray 0):=hsb₁.extBut _ _ hDC (Heap.get?_push_of_some _ (hH2▸Heap.get?_push_size _ rfl))
 refine byC λ nG=>?_
 obtain⟨oC,hoC,hNC⟩:=ns_obj hns₁
 refine nG ?_
 have fr2:=fresh_size S2
 have hLs:c.L<s2.heap.objs.size:=S2.F.ns.lt
 have b0n:∀ a,s2.heap.objs.size≤a→c.b₀.get? a=none:=λ a ha=>by
  cases e:c.b₀.get? a with
  | none=>rfl
  | some o=>exact absurd (Nat.lt_of_lt_of_le (Heap.lt_size e) (Nat.le_trans S2.F.above (Nat.le_trans (Nat.le_of_lt hLs) ha))) (Nat.lt_irrefl _)
 have hCn:∀ p∈(I,oI)::nw1,p.1≠H2.objs.size:=λ p hp=>by
  have:=Heap.lt_size (S2.N p hp).1
  rw [hC];exact Nat.ne_of_lt (Nat.lt_succ_of_lt this)
 have N2:News c.b₀ c.L h₁ ((H2.objs.size,oC)::(s2.heap.objs.size,listOf ([]:List Value).toArray 0)::(I,oI)::nw1):=λ p hp=>by
  rcases List.mem_cons.mp hp with rfl | hp
  ·exact⟨hoC,by rw [hC];exact Nat.ne_of_gt (Nat.lt_succ_of_lt hLs),b0n _ (by rw [hC];exact Nat.le_succ _)⟩
  ·rcases List.mem_cons.mp hp with rfl | hp
   ·exact⟨hDg,Nat.ne_of_gt hLs,b0n _ (Nat.le_refl _)⟩
   ·exact⟨old _ _ (S2.N p hp).1,(S2.N p hp).2⟩
 have sub:∀ p∈(I,oI)::nw1,p∈(H2.objs.size,oC)::(s2.heap.objs.size,listOf ([]:List Value).toArray 0)::(I,oI)::nw1:=λ p hp=>.tail _ (.tail _ hp)
 have S3:St g c m φ1 ((H2.objs.size,oC)::(s2.heap.objs.size,listOf ([]:List Value).toArray 0)::(I,oI)::nw1) H1 {s2 with heap:=h₁,toks:=s2.toks+([]:List (PySem.Str × Value)).length}:=
  S2.more (S2.F.keeps old) N2 sub
 have x13:Ext φ1 nw1 φ1 ((H2.objs.size,oC)::(s2.heap.objs.size,listOf ([]:List Value).toArray 0)::(I,oI)::nw1):=ext_sub λ p hp=>sub p (.tail _ hp)
 have nmut:∀ a,s2.heap.objs.size≤a→a∉mutA φ1:=λ a ha q=>by
  obtain⟨ob,hob⟩:=S2.C.owned q
  exact absurd (Heap.lt_size (S2.N _ hob).1) (Nat.not_lt.mpr ha)
 have hIlt:I<s2.heap.objs.size:=Heap.lt_size (S2.N _ (.head _)).1
 have hC0:∀ p∈nw1,p.1≠H2.objs.size:=λ p hp=>hCn p (.tail _ hp)
 have hD0:∀ p∈nw1,p.1≠s2.heap.objs.size:=λ p hp=>fr2 p (.tail _ hp)
 have J:CI g c m φ1 nw1 s1 I s2.heap.objs.size H2.objs.size src 0 [] φ1 ((H2.objs.size,oC)::(s2.heap.objs.size,listOf ([]:List Value).toArray 0)::(I,oI)::nw1) H1 {s2 with heap:=h₁,toks:=s2.toks+([]:List (PySem.Str × Value)).length}:=
  {S:=S3,x:=x13,u:=u2.trans ⟨_,_,rfl⟩,it:=it2.mono (ext_sub sub) im2,im:=im2,acc:=⟨[],0,.tail _ (.head _),VRs.nil⟩,dm:=nmut _ (Nat.le_refl _),cd:=⟨oC,_,.head _,hNC⟩,cm:=nmut _ (by rw [hC];exact Nat.le_succ _),len:=Nat.zero_le _}
 have loop:∀ s',s' = {s2 with heap:=h₁,toks:=s2.toks+([]:List (PySem.Str × Value)).length}→codeAny (model g.prog g.w) c.A (.compLoop (.ListComp elt [⟨.Name x px,iter,ifs,0⟩] sc' pos) 0 (.ref I) (.ref s2.heap.objs.size) (compEnvC sc' cl H2.objs.size env)) (RR (.ref s2.heap.objs.size) H2.objs.size) s':=by
  rintro s' rfl
  refine comp_loop (P:=λ ws h=>Run (alloc (.list ws) h) P X) Y fx bf S1.fo S1.ho (O.mono x1.s) K hcl hI1 hD0 hC0
   (Nat.ne_of_gt (by simp only [hC];exact Nat.lt_succ_of_lt hIlt)) (Ne.symm hDC) (Nat.ne_of_lt hIlt) ?_ 200 0 [] φ1 _ H1 _ J (by decide) h2
  intro kk ws φe nwe He se _ Se xe ue he hdm hce hcm hle hP
  refine byC λ nG=>?_
  obtain⟨xs,na,hDe,hws⟩:=he
  obtain⟨oCe,mCe,hCe,hNe⟩:=hce
  refine nG ?_
  have nC:=(Se.N _ hCe)
  refine byC λ nG=>?_
  obtain⟨Sa,va,xa⟩:=st_off Se S1.fo S1.ho xe hC0 hCe (ns_noVal hNe) hcm
  refine nG ?_
  have hDa:(s2.heap.objs.size,listOf xs.toArray na)∈ndrop nwe H2.objs.size:=mem_ndrop hDe hDC
  obtain⟨Sb,vb,xb⟩:=st_off Sa S1.fo S1.ho xa hD0 hDa list_noVal hdm
  have hnd:∀ p∈ndrop (ndrop nwe H2.objs.size) s2.heap.objs.size,p.1≠s2.heap.objs.size:=λ p hp=>(of_ndrop hp).2
  have y:Ext φe (ndrop (ndrop nwe H2.objs.size) s2.heap.objs.size) (φe++[(s2.heap.objs.size,s2.heap.objs.size)]) ((s2.heap.objs.size,listOf xs.toArray na)::ndrop (ndrop nwe H2.objs.size) s2.heap.objs.size):=ext_new (λ _ h=>.tail _ h) hnd
  have hP':P (.ref He.length) (He++[.list ws]):=hP
  refine hR _ _ _ _ _ _ mCe (.ref He.length) ⟨Sb.F,λ p hp=>?_,Sb.C.new (o:=.list ws) (λ _ h=>.tail _ h) hnd ⟨rfl,_,xs,na,.head _,rfl,rfl,VRs.mono y.s _ _ (VRs.monoV vb _ _ (VRs.monoV va _ _ hws)),.inl rfl⟩,Sb.fo.mono y.s,Sb.ho.mono y.s⟩ ((x1.trans xb).trans y) (u1.trans ue) ?_ hP' nC.2.2 nC.2.1 (λ p hp=>?_) ?_ (obj_ns nC.1 hNe)
  ·rcases List.mem_cons.mp hp with rfl | hp
   ·exact Sa.N _ hDa
   ·exact Sb.N p hp
  ·exact⟨s2.heap.objs.size,s2.heap.objs.size,by rw [←Sb.C.len];simp,rfl⟩
  ·rcases List.mem_cons.mp hp with rfl | hp
   ·exact hDC
   ·exact(of_ndrop (of_ndrop hp).1).2
  ·intro q
   unfold mutA at q
   rw [List.map_append,List.mem_append] at q
   rcases q with q | q
   ·exact hcm q
   ·simp at q;exact hDC q.symm
 exact codeAny_compStart_list (loop _ rfl) (iter_again J.S J.it (loop _ rfl))
theorem st_same{C:Addr}{h':Heap}{tk:Nat}(S:St g c m φ nw H s)(hb:c.b₀.get? C=none)(hL:C≠c.L)(hC:∀ p∈nw,p.1≠C)(hk:Heap.SameBut C s.heap h'):St g c m φ nw H {s with heap:=h',toks:=tk}:=
 ⟨S.F.change hk hL hb,λ p hp=>⟨(hk.2 _ (hC p hp)).trans (S.N p hp).1,(S.N p hp).2⟩,S.C,S.fo,S.ho⟩
theorem name_zero{gn:Comprehension}{x:PySem.Str}(h:(if gn.is_async=0 then namePart gn.target else none)=some x):∃ px,gn=⟨.Name x px,gn.iter,gn.ifs,0⟩:=by
 cases gn with | mk target iter ifs asy=>
 by_cases hz:asy=0
 ·exact(name_is (t:=target) ((if_pos hz).symm.trans h)).imp λ px q=>by rw [q,hz]
 ·exact no_some ((if_neg hz).symm.trans h)
inductive CRun(K:Frag)(call:CallT)(n:Nat)(sc sc':Scope)(ρ:Lo)(elt:Expr)(gens:List Comprehension)(H:Hp)(P:V→Hp→Prop)(X:Addr→Hp→Prop):Prop
 | mk (x:PySem.Str) (px:Pos) (iter:Expr) (ifs:List Expr) (e:gens=[⟨.Name x px,iter,ifs,0⟩]) (k:OkComp sc sc' ρ x iter)
  (h:Run ((evE K call n sc ρ iter >>= λ s=>toSrc s >>= λ src=>compLoop 200 src 0 (eltM K call n sc' ρ x ifs elt) >>= λ vs=>alloc (.list vs)) H) P X)
theorem Comp_run{P:V→Hp→Prop}{gens:List Comprehension}(h:Run (evE g.K call (n+1) sc ρ (.ListComp elt gens sc' pos) H) P X):CRun g.K call n sc sc' ρ elt gens H P X:=by
 refine byC λ nG=>?_
 obtain⟨gn,e,h1⟩:=onSome_is (o:=oneL gens) h
 obtain⟨x,e1,h2⟩:=onSome_is h1
 obtain⟨hk,h3⟩:=rNoB h2
 obtain⟨px,e2⟩:=name_zero e1
 exact nG ⟨x,px,gn.iter,gn.ifs,(oneL_is e).trans (congrArg (λ z=>[z]) e2),okComp_is (nbF hk),h3⟩
theorem Comp_sound{P:V→Hp→Prop}{gens:List Comprehension}(Y:Sound hd g call k n)(fx:Fx g c)(bf:BudX hd c X k)(S:St g c m φ nw H s)(O:EnvOk g c env sc ρ m φ nw)
  (h:Run (evE g.K call (n+1) sc ρ (.ListComp elt gens sc' pos) H) P X):wpAny (model g.prog g.w) c.A (eval (.ListComp elt gens sc' pos) env) (PostG (VR g.K) g c m φ nw P s) (PostX g c m φ nw X s) s:=by
 refine byC λ nG=>?_
 obtain⟨x,px,iter,ifs,rfl,K,h1⟩:=Comp_run h
 obtain⟨cl,hclos,hcl⟩:=comp_cells O K
 refine nG ?_
 simp only [eval_ListComp]
 refine wpAny_comprehension_free (use:=none) rfl (K.st env) hclos K.kind (λ y hy hk=>(K.loc y hy hk).1) ?_
 refine comp_core (RR:=λ acc C=>compPost (model g.prog g.w) c.A (PostX g c m φ nw X s) none (PostG (VR g.K) g c m φ nw P s) acc C) Y fx bf S O K hcl h1 ?_
 intro D C φ' nw' H' s' mC v S' x' u' hv hP hb hL hC _ hn
 exact⟨mC,hn,λ h' hs'=>⟨φ',nw',H',v,st_same (tk:=s'.toks) S' hb hL hC hs',x',hv,hP,u'.trans ⟨h',_,rfl⟩⟩⟩
theorem soundC(hc:CallOk hd g call k)(Y:Sound hd g call k n):SoundC hd g call k (n+1) where
 Call:=λ fx bf S O h=>Call_sound hc Y fx bf S O h
 Comp:=λ fx bf S O h=>Comp_sound Y fx bf S O h
theorem sound_all(hc:CallOk hd g call k)(n:Nat):Sound hd g call k n:=by
 induction n with
 | zero=>exact sound_zero
 | succ n ih=>exact sound_succ ih (soundC hc ih)
end
end VS.Internal
end
section
open PySem PySem.W PySem.Calls PyProof.Rows PySem.SeqAt
set_option backward.match.sparseCases false
set_option maxRecDepth 100000
namespace VS.Internal
noncomputable def Mv(fr:List Addr)(ex:Addr→Prop)(h h':Heap):Prop:=
 (∀ b o,¬ ex b→b∉fr→h.get? b=some o→h'.get? b=some o)∧∀ b o,¬ ex b→h.get? b=some o→∃ sl,h'.get? b=some {o with slots:=sl}
theorem Mv.keeps{fr:List Addr}{ex:Addr→Prop}{h h':Heap}(k:∀ b o,¬ ex b→h.get? b=some o→h'.get? b=some o):Mv fr ex h h':=⟨λ b o h1 _ e=>k b o h1 e,λ b o h1 e=>⟨o.slots,k b o h1 e⟩⟩
noncomputable def frs(c:Cx):List Addr:=(c.env₀ :: c.outer).filterMap (·.frame)
inductive FlyS(b₀:Heap)(L:Addr)(nw:Nw)(e:Addr)(C:Value)(fl:Value)(h:Heap):Prop
 | mk (oe:Obj) (vs:Array Value) (T:Addr) (oT:Obj) (ts:Array Value) (h1:h.get? e=some oe) (h2:oe.cls=C) (h3:oe.data = .fields vs) (h4:vs[2]? = some .none) (h5:vs[1]? = some (.ref T)) (h6:h.get? T=some oT) (h7:oT.data = .fields ts)
  (h8:ts[3]? = some fl) (h9:T≠e) (h10:b₀.get? T=none) (h11:T≠L) (h12:∀ p∈nw,p.1≠T)
structure FlyT(b₀:Heap)(L:Addr)(nw:Nw)(e:Addr)(C:Value)(fl:Value)(h:Heap):Prop where
 x:FlyS b₀ L nw e C fl h
 e0:b₀.get? e=none
 eL:e≠L
 en:∀ p∈nw,p.1≠e
theorem FlyT.fly{b₀:Heap}{L:Addr}{nw:Nw}{e:Addr}{C:Value}{fl:Value}{h:Heap}(F:FlyT b₀ L nw e C fl h)(hf:fl = .none∨fl=rawInt L):Fly b₀ L nw e C h:=by
 refine byC λ nG=>?_
 obtain⟨⟨oe,vs,T,oT,ts,h1,h2,h3,h4,h5,h6,h7,h8,h9,h10,h11,h12⟩,e0,eL,en⟩:=F
 refine nG ?_
 have h8':ts[3]? = some .none∨ts[3]? = some (rawInt L):=by
  rcases hf with q | q
  ·exact .inl (q▸h8)
  ·exact .inr (q▸h8)
 exact⟨⟨oe,vs,h1,h2,h3,h4,.inr ⟨T,oT,ts,h5,h6,h7,h8',h9,h10,h11,h12⟩⟩,e0,eL,en⟩
section
variable{g:G0}{c:Cx}{m:PySem.Str→Option Value}{φ:Ph}{nw:Nw}{H:Hp}{s:Shared}{A:Around}{E:Value→Shared→Prop}
noncomputable def nread(nw:Nw)(h:Heap):Nw:=nw.map λ p=>(p.1,(h.get? p.1).getD p.2)
theorem nread_addr{nw:Nw}{h:Heap}{p:Addr × Obj}(hp:p∈nread nw h):∃ q∈nw,q.1=p.1:=by
 refine byC λ nG=>?_
 obtain⟨q,hq,rfl⟩:=List.mem_map.mp hp
 refine nG ?_
 exact⟨q,hq,rfl⟩
theorem frame_in(fx:Fx g c)(S:St g c m φ nw H s){b:Addr}(hb:b∈frs c):b=c.L∨∃ o es ep,(b,o)∈nw∧b∉mutA φ∧o.data = .dict es ep:=by
 obtain⟨env,he,hf⟩:=List.mem_filterMap.mp hb
 rcases List.mem_cons.mp he with rfl | he
 ·rw [fx.hf] at hf;cases hf;exact .inl rfl
 ·obtain⟨_,L,o,es,ep,h1,h2,h3,h4⟩:=S.fo env he
  rw [hf] at h1;cases h1
  exact .inr ⟨o,es,ep,h2,h3,h4⟩
theorem st_moves{ex:Addr→Prop}{h':Heap}(fx:Fx g c)(S:St g c m φ nw H s)(hM:Mv (frs c) ex s.heap h')(x0:∀ b,ex b→c.b₀.get? b=none)(xL:¬ ex c.L)(xn:∀ p∈nw,¬ ex p.1)(tk:Nat) :
  St g c m φ (nread nw h') H {s with heap:=h',toks:=tk}∧Ext φ nw φ (nread nw h'):=by
 have bfr:∀ b o,c.b₀.get? b=some o→b∉frs c:=λ b o e q=>by
  rcases frame_in fx S q with rfl | ⟨_,_,_,h1,_⟩
  ·exact absurd (Nat.lt_of_lt_of_le (Heap.lt_size e) S.F.above) (Nat.lt_irrefl _)
  ·rw [(S.N _ h1).2.2] at e;exact no_some e
 have exact:∀ p∈nw,p.1∉frs c→p∈nread nw h':=λ p hp hf=>by
  have:=hM.1 p.1 p.2 (xn p hp) hf (S.N p hp).1
  refine List.mem_map.mpr ⟨p,hp,?_⟩
  rw [this];rfl
 have x:Ext φ nw φ (nread nw h'):=⟨List.prefix_refl _,λ p hp n=>by
  refine⟨?_,n⟩
  by_cases hf:p.1∈frs c
  ·rcases frame_in fx S hf with q | ⟨o,es,ep,h1,h2,h3⟩
   ·exact absurd q (S.N p hp).2.1
   ·have e1:p.2=o:=same_obj S (a:=p.1) hp h1
    refine byC λ nG=>?_
    obtain⟨sl,hsl⟩:=hM.2 p.1 p.2 (xn p hp) (S.N p hp).1
    refine nG ?_
    exact .inr ⟨⟨es,ep,e1▸h3⟩,sl,List.mem_map.mpr ⟨p,hp,by rw [hsl];rfl⟩⟩
  ·exact .inl (exact p hp hf)⟩
 refine byC λ nG=>?_
 obtain⟨oL,es,ep,hL,hd,hr⟩:=S.F.ns
 obtain⟨sl,hsl⟩:=hM.2 _ _ xL hL
 refine nG ?_
 refine⟨⟨⟨⟨_,es,ep,hsl,hd,hr⟩,λ b o e=>hM.1 b o (λ q=>by rw [x0 b q] at e;exact no_some e) (bfr b o e) (S.F.keep b o e),S.F.above⟩,λ p hp=>?_,?_,S.fo.mono x.s,S.ho.mono x.s⟩,x⟩
 ·obtain⟨q,hq,rfl⟩:=List.mem_map.mp hp
  obtain⟨sl,hsl⟩:=hM.2 q.1 q.2 (xn q hq) (S.N q hq).1
  refine⟨?_,(S.N q hq).2⟩
  show h'.get? q.1=some ((h'.get? q.1).getD q.2)
  rw [hsl];rfl
 ·refine S.C.chgV x.s.v λ d hd o h=>exact _ h λ q=>?_
  rcases frame_in fx S q with q | ⟨_,_,_,_,h2,_⟩
  ·exact(S.N _ h).2.1 q
  ·exact h2 hd
theorem funFrames(fx:Fx g c)(S:St g c m φ nw H s):s.heap.FunFrames c.b₀ (c.env₀ :: c.outer):=by
 have bL:c.b₀.get? c.L=none:=by
  cases e:c.b₀.get? c.L with
  | none=>rfl
  | some o=>exact absurd (Nat.lt_of_lt_of_le (Heap.lt_size e) S.F.above) (Nat.lt_irrefl _)
 refine byC λ nG=>?_
 obtain⟨oL,es,ep,hL,hd,_⟩:=S.F.ns
 refine nG ?_
 refine⟨by rw [fx.hke];decide,⟨c.L,oL,fx.hf,bL,hL,λ vs q=>by rw [hd] at q;cases q⟩,?_⟩
 have:∀ l:List Env,(∀ env∈l,env∈c.outer)→s.heap.FunFrames c.b₀ l:=by
  intro l
  induction l with
  | nil=>intro _;trivial
  | cons env r ih=>
   intro hl
   refine byC λ nG=>?_
   obtain⟨hk,L,o,es,ep,h1,h2,h3,h4⟩:=S.fo env (hl env (.head _))
   refine nG ?_
   exact⟨hk,⟨L,o,h1,(S.N _ h2).2.2,(S.N _ h2).1,λ vs q=>by rw [h4] at q;cases q⟩,ih λ e he=>hl e (.tail _ he)⟩
 exact this c.outer λ _ h=>h
theorem entry_new{e:Addr}{oe:Obj}{vs:Array Value}{head:Value}{hadNext:Bool}{ex:Addr→Prop}{Q:Unit→Shared→Prop}(fx:Fx g c)(S:St g c m φ nw H s)(hA:A.frames=c.A.frames)
  (he:s.heap.get? e=some oe) (hd:oe.data = .fields vs) (h2:vs[2]? = some .none) (e0:c.b₀.get? e=none) (eL:e≠c.L) (en:∀ p∈nw,p.1≠e) (hex:ex e)
  (k:∀ h',Mv (frs c) ex s.heap h'→FlyT c.b₀ c.L nw e oe.cls (rawInt c.L) h'→Q () {s with heap:=h'}) :
  wpAny (model g.prog g.w) A (do let a ←frameOf c.env₀;let pl ←entryPlaceOf c.L hadNext;let b ←EntryCells.newEntry head a .none (rawInt c.L) .none pl;setField (.ref e) 1 b) Q E s:=by
 have hfr:A.frames=some (c.env₀ :: c.outer):=hA.trans fx.fr
 have hl:=funFrames fx S
 have hene:e∉(c.env₀ :: c.outer).filterMap (·.frame):=λ hm=>by
  rcases frame_in fx S hm with q | ⟨_,_,_,q,_⟩
  ·exact eL q
  ·exact en _ q rfl
 have hsz:1<vs.size:=by have:=(Array.getElem?_eq_some_iff.mp h2).1;exact Nat.le_of_lt (by assumption)
 refine wpAny_bind (wpAny_frameOf_fun hfr hl fx.hf λ h₁ hs₁=>?_)
 refine wpAny_bind (wpAny_entryPlaceOf λ pl hpl=>?_)
 refine wpAny_bind (wpAny_newObj_type ?_ (hpl.sizeOk5 _ _ _ _ _))
 have he₁:h₁.get? e=some oe:=(hs₁.2.1 e hene).trans he
 have he₂:=Heap.get?_push_of_some (h:=h₁) {cls:=.type "traceback",dict:=none,data:=.fields ([head,.ref c.L,.none,rawInt c.L,.none]++(if pl.isEmpty then List.replicate 6 Value.none else pl)).toArray} he₁
 refine wpAny_setField he₂ hd hsz (k _ ?_ ?_)
 ·refine⟨λ b o hb hf e1=>?_,λ b o hb e1=>?_⟩
  ·have hbe:b≠e:=λ q=>hb (q▸hex)
   rw [Heap.get?_update_other _ _ (Ne.symm hbe)]
   exact Heap.get?_push_of_some _ ((hs₁.2.1 b hf).trans e1)
  ·have hbe:b≠e:=λ q=>hb (q▸hex)
   refine byC λ nG=>?_
   obtain⟨sl,e2⟩:=hs₁.2.2 b o e1
   refine nG ?_
   refine⟨sl,?_⟩
   rw [Heap.get?_update_other _ _ (Ne.symm hbe)]
   exact Heap.get?_push_of_some _ e2
 ·have hTe:h₁.objs.size≠e:=Nat.ne_of_gt (Heap.lt_size he₁)
  have hd₃:=Obj.data_mapFields hd (·.setIfInBounds 1 (Value.ref h₁.objs.size))
  have he₃:=Heap.get?_update_self (Obj.mapFields (·.setIfInBounds 1 (Value.ref h₁.objs.size))) he₂ (Obj.isFreed_of_fields hd₃)
  have hT₃:=(Heap.get?_update_other (h₁.push {cls:=.type "traceback",dict:=none,data:=.fields ([head,.ref c.L,.none,rawInt c.L,.none]++(if pl.isEmpty then List.replicate 6 Value.none else pl)).toArray})
   (Obj.mapFields (·.setIfInBounds 1 (Value.ref h₁.objs.size))) (Ne.symm hTe)).trans (Heap.get?_push_size h₁ rfl)
  have up:∀ b o,s.heap.get? b=some o→b<h₁.objs.size:=λ b o e1=>by
   obtain⟨sl,e2⟩:=hs₁.2.2 b o e1
   exact Heap.lt_size e2
  refine⟨⟨_,_,h₁.objs.size,_,_,he₃,Obj.cls_mapFields _ _,hd₃,by rw [Array.getElem?_setIfInBounds_ne (by decide)];exact h2,by simp [hsz],hT₃,rfl,by first | (rfl;done) | (rcases hpl with rfl | ⟨_,_,_,_,_,_,_,rfl⟩<;>simp),hTe,?_,?_,?_⟩,e0,eL,en⟩
  ·cases q:c.b₀.get? h₁.objs.size with
   | none=>rfl
   | some o=>exact absurd (up _ _ (S.F.keep _ _ q)) (Nat.lt_irrefl _)
  ·intro q
   obtain⟨oL,es,ep,hL,_⟩:=S.F.ns
   have:=up _ _ hL
   rw [←q] at this
   exact Nat.lt_irrefl _ this
  ·intro p hp q
   have:=up _ _ (S.N p hp).1
   rw [q] at this
   exact Nat.lt_irrefl _ this
theorem nadd_up{nw nw':Nw}(hn:∀ p∈nw',∃ q∈nw,q.1=p.1){a:Addr}(k:∀ p∈nw,p.1≠a):∀ p∈nw',p.1≠a:=λ p hp q=>by
 obtain⟨r,hr,e⟩:=hn p hp
 exact k r hr (e.trans q)
theorem FlyT.up{b₀:Heap}{L:Addr}{nw nw':Nw}{e:Addr}{C fl:Value}{h:Heap}(F:FlyT b₀ L nw e C fl h)(hn:∀ p∈nw',∃ q∈nw,q.1=p.1):FlyT b₀ L nw' e C fl h:=by
 refine byC λ nG=>?_
 obtain⟨⟨oe,vs,T,oT,ts,h1,h2,h3,h4,h5,h6,h7,h8,h9,h10,h11,h12⟩,e0,eL,en⟩:=F
 refine nG ?_
 exact⟨⟨oe,vs,T,oT,ts,h1,h2,h3,h4,h5,h6,h7,h8,h9,h10,h11,nadd_up hn h12⟩,e0,eL,nadd_up hn en⟩
noncomputable def Stn(g:G0)(c:Cx)(m:PySem.Str→Option Value)(φ:Ph)(nw:Nw)(H:Hp)(s:Shared)(e:Addr)(C fl:Value)(Q:Shared→Prop):Prop:=
 ∀ h' nw',St g c m φ nw' H {s with heap:=h'}→Ext φ nw φ nw'→(∀ p∈nw',∃ q∈nw,q.1=p.1)→FlyT c.b₀ c.L nw' e C fl h'→Q {s with heap:=h'}
theorem note_sound{e:Addr}{C:Value}{Q:Unit→Shared→Prop}(fx:Fx g c)(S:St g c m φ nw H s)(F:Fly c.b₀ c.L nw e C s.heap)(hA:A.frames=c.A.frames)(k:Stn g c m φ nw H s e C (rawInt c.L) (Q ())) :
  wpAny (model g.prog g.w) A (noteFrame (.ref e) c.env₀) Q E s:=by
 refine byC λ nG=>?_
 obtain⟨⟨oe,vs,he,rfl,hd,h2,ht⟩,e0,eL,en⟩:=F
 refine nG ?_
 unfold noteFrame
 rw [fx.hf]
 rcases ht with h1 | ⟨T,oT,ts,h1,hT,hdT,h3,hTe,hT0,hTL,hTn⟩
 ·refine wpAny_bind (wpAny_field he hd h1 ?_)
  refine entry_new (ex:=λ b=>b=e) fx S hA he hd h2 e0 eL en rfl λ h' hM hF=>?_
  obtain⟨S',x⟩:=st_moves fx S hM (λ b q=>q▸e0) (λ q=>eL q.symm) en s.toks
  exact k h' _ S' x (λ p hp=>nread_addr hp) (hF.up λ p hp=>nread_addr hp)
 ·refine wpAny_bind (wpAny_field he hd h1 ?_)
  rw [if_pos (show(Value.ref T != Value.none)=true from by rfl)]
  refine wpAny_bind (wpAny_field hT hdT (x:=ts[3]?.getD .none) (by rcases h3 with h3 | h3<;>rw [h3]<;>rfl) ?_)
  rcases h3 with h3 | h3
  ·rw [h3]
   dsimp only [if_neg (show ¬(((some Value.none).getD Value.none==rawInt c.L)=true) from by simp [rawInt])]
   refine wpAny_bind (wpAny_setField hT hdT (Array.getElem?_eq_some_iff.mp h3).1 ?_)
   have other:∀ b,b≠T→(s.heap.update T (Obj.mapFields (·.setIfInBounds 3 Value.none))).get? b=s.heap.get? b:=λ b hb=>Heap.get?_update_other _ _ (Ne.symm hb)
   have hM1:Mv (frs c) (λ b=>b=e∨b=T) s.heap (s.heap.update T (Obj.mapFields (·.setIfInBounds 3 Value.none))):=.keeps λ b o hb e1=>(other b λ q=>hb (.inr q)).trans e1
   obtain⟨S1,x1⟩:=st_moves fx S hM1 (λ b q=>q.elim (λ z=>z▸e0) λ z=>z▸hT0) (λ q=>q.elim (λ z=>eL z.symm) λ z=>hTL z.symm) (λ p hp q=>q.elim (en p hp) (hTn p hp)) s.toks
   refine entry_new (ex:=λ b=>b=e) fx S1 hA ((other e (Ne.symm hTe)).trans he) hd h2 e0 eL (λ p hp q=>let ⟨r,hr,e1⟩:=nread_addr hp;en r hr (e1.trans q)) rfl λ h' hM hF=>?_
   obtain⟨S',x⟩:=st_moves fx S1 hM (λ b q=>q▸e0) (λ q=>eL q.symm) (λ p hp q=>let ⟨r,hr,e1⟩:=nread_addr hp;en r hr (e1.trans q)) s.toks
   have inc:∀ p∈nread (nread nw (s.heap.update T (Obj.mapFields (·.setIfInBounds 3 Value.none)))) h',∃ q∈nw,q.1=p.1:=λ p hp=>by
    refine byC λ nG=>?_
    obtain⟨q,hq,e1⟩:=nread_addr hp
    obtain⟨r,hr,e2⟩:=nread_addr hq
    refine nG ?_
    exact⟨r,hr,e2.trans e1⟩
   exact k h' _ S' (x1.trans x) inc (hF.up λ p hp=>nread_addr hp)
  ·rw [h3]
   rw [if_pos (show((some (rawInt c.L)).getD Value.none==rawInt c.L)=true from by simp)]
   exact wpAny_pure (k s.heap nw S (.refl _ _) (λ p hp=>⟨p,hp,rfl⟩) ⟨⟨oe,vs,T,oT,ts,he,rfl,hd,h2,h1,hT,hdT,h3,hTe,hT0,hTL,hTn⟩,e0,eL,en⟩)
theorem flight_sound{e:Addr}{C fl:Value}{fr:Option Addr}{Q:Unit→Shared→Prop}(fx:Fx g c)(S:St g c m φ nw H s)(F:FlyT c.b₀ c.L nw e C fl s.heap)(k:Stn g c m φ nw H s e C (fr.elim .none λ f=>rawInt f) (Q ())) :
  wpAny (model g.prog g.w) A (setFlight (.ref e) fr) Q E s:=by
 refine byC λ nG=>?_
 obtain⟨⟨oe,vs,T,oT,ts,he,rfl,hd,h2,h1,hT,hdT,h3,hTe,hT0,hTL,hTn⟩,e0,eL,en⟩:=F
 refine nG ?_
 have hsz3:3<ts.size:=(Array.getElem?_eq_some_iff.mp h3).1
 refine wpAny_bind (wpAny_field he hd h1 ?_)
 rw [if_pos (show(Value.ref T != Value.none)=true from by rfl)]
 refine wpAny_setField hT hdT hsz3 ?_
 have other:∀ b,b≠T→(s.heap.update T (Obj.mapFields (·.setIfInBounds 3 (fr.elim Value.none λ f=>rawInt f)))).get? b=s.heap.get? b:=λ b hb=>Heap.get?_update_other _ _ (Ne.symm hb)
 have hM1:Mv (frs c) (λ b=>b=T) s.heap (s.heap.update T (Obj.mapFields (·.setIfInBounds 3 (fr.elim Value.none λ f=>rawInt f)))):=.keeps λ b o hb e1=>(other b hb).trans e1
 obtain⟨S1,x1⟩:=st_moves fx S hM1 (λ b q=>q▸hT0) (λ q=>hTL q.symm) hTn s.toks
 refine k _ _ S1 x1 (λ p hp=>nread_addr hp) (FlyT.up ⟨⟨oe,vs,T,_,_,(other e (Ne.symm hTe)).trans he,rfl,hd,h2,h1,Heap.get?_update_self _ hT (Obj.isFreed_of_fields (Obj.data_mapFields hdT _)),Obj.data_mapFields hdT _,by simp [hsz3],hTe,hT0,hTL,hTn⟩,e0,eL,en⟩ λ p hp=>nread_addr hp)
theorem field1_sound{e:Addr}{C fl:Value}{Q:Value→Shared→Prop}(F:FlyT c.b₀ c.L nw e C fl s.heap)(k:∀ T,Q (.ref T) s):wpAny (model g.prog g.w) A (field (.ref e) 1) Q E s:=by
 refine byC λ nG=>?_
 obtain⟨⟨oe,vs,T,oT,ts,he,rfl,hd,h2,h1,_⟩,_⟩:=F
 refine nG ?_
 exact wpAny_field he hd h1 (k T)
end
end VS.Internal
end
section
open PySem PySem.W PySem.Calls PyProof.Rows PySem.SeqAt
open PySem.Builtin PySem.Builtin.ObjectAttr
set_option backward.match.sparseCases false
set_option maxRecDepth 100000
set_option maxHeartbeats 1000000
namespace VS.Internal
noncomputable def tnm(v:Value):Option String:=if h:Nat.beq v.ctorIdx 8=true then PySem.Value.type.elim (motive:=λ _=>Option String) v (Nat.eq_of_beq_eq_true h) λ s=>some s else none
theorem tnm_eq{v:Value}{s:String}(h:tnm v=some s):v = .type s:=by
 have hb:=of_part h
 revert h
 exact PySem.Value.type.elim v (Nat.eq_of_beq_eq_true hb) λ y h=>congrArg Value.type (Option.some.inj h)
noncomputable def excOver(l:List Value):Bool:=match l with
 | v::r=>Nat.beq v.ctorIdx 10&&(r.map tnm==[some "ValueError",some "Exception",some "BaseException",some "object"])
 | []=>false
noncomputable def excTop(l:List Value):Bool:=match l with
 | v::r=>Nat.beq v.ctorIdx 10&&excOver r
 | []=>false
theorem excTop_is{l:List Value}(h:excTop l=true):∃ c r,l = .ref c::r∧excOver r=true:=by
 cases l with
 | nil=>cases h
 | cons v r=>
 obtain⟨h1,h2⟩:=(Bool.and_eq_true _ _).mp h
 exact PySem.Value.ref.elim (motive:=λ v=>∃ c r',v::r = .ref c::r'∧excOver r'=true) v (Nat.eq_of_beq_eq_true h1) λ c=>⟨c,r,rfl,h2⟩
theorem exc_shape{l:List Value}(h:excOver l=true):∃ c,l=[.ref c,.type "ValueError",.type "Exception",.type "BaseException",.type "object"]:=by
 cases l with
 | nil=>cases h
 | cons v r=>
 obtain⟨h1,h2⟩:=(Bool.and_eq_true _ _).mp h
 clear h
 ·have e:r.map tnm=[some "ValueError",some "Exception",some "BaseException",some "object"]:=eq_of_beq h2
  obtain⟨a1,r1,rfl,e1,e⟩:=List.map_eq_cons_iff.mp e
  obtain⟨a2,r2,rfl,e2,e⟩:=List.map_eq_cons_iff.mp e
  obtain⟨a3,r3,rfl,e3,e⟩:=List.map_eq_cons_iff.mp e
  obtain⟨a4,r4,rfl,e4,e⟩:=List.map_eq_cons_iff.mp e
  obtain rfl:=List.map_eq_nil_iff.mp e
  simp only [tnm_eq e1,tnm_eq e2,tnm_eq e3,tnm_eq e4]
  exact PySem.Value.ref.elim (motive:=λ v=>∃ c,[v,.type "ValueError",.type "Exception",.type "BaseException",.type "object"]=[.ref c,.type "ValueError",.type "Exception",.type "BaseException",.type "object"]) v (Nat.eq_of_beq_eq_true h1) λ c=>⟨c,rfl⟩
theorem refuse_exc(self:Value){l:List Value}(e:excOver l=true):refuseLoop self "__setattr__" l=pure ():=by
 obtain⟨c,rfl⟩:=exc_shape e
 exact(refuseLoop_ref self _ c _).trans (PySem.F.store_ValueError.passes self)
theorem exc_has{T:String}(hT:([.type "ValueError",.type "Exception",.type "BaseException",.type "object"]:List Value).contains (.type T)=true) {l:List Value} (e:excOver l=true):l.contains (.type T)=true:=by
 obtain⟨c,rfl⟩:=exc_shape e
 simp only [List.contains_cons,hT,Bool.or_true]
theorem exc_hasnt{T:String}(hT:([.type "ValueError",.type "Exception",.type "BaseException",.type "object"]:List Value).contains (.type T)=false) {l:List Value} (e:excOver l=true):l.contains (.type T)=false:=by
 obtain⟨c,rfl⟩:=exc_shape e
 simp only [List.contains_cons,hT]
 rfl
section
variable{prog:Program}{w:World}{A:Around}{E:Value→Shared→Prop}{s:Shared}{K:Frag}{C e:Addr}{o:Obj}{vs:Array Value}{name:PySem.Str}{v:Value}
theorem exc_store{Q:Unit→Shared→Prop}(X:K.In s.heap)(he:s.heap.get? e=some o)(hc:o.cls = .ref C)(hdn:o.dict=none)(hd:o.data = .fields vs)
  (hs:findIn K (.ref C) "__setattr__" = some (some (.builtin "object.__setattr__"))) (ht:takerIn K C name=some none) (hh:(clsIn K C).any (λ cd=>cd.hasDict&&excTop cd.mro)=true)
  (hq:∀ h' tk,(∀ b ob,b≠e→s.heap.get? b=some ob→h'.get? b=some ob)→(∃ o',h'.get? e=some o'∧o'.cls = .ref C∧o'.data = .fields vs)→Q () {s with heap:=h',toks:=tk}) :
  wpAny (model prog w) A (setAttr (.ref e) name v) Q E s:=by
 refine byC λ nG=>?_
 obtain⟨cd,hcd,hh⟩:=any_some hh
 refine nG ?_
 simp only [Bool.and_eq_true] at hh
 obtain⟨hhd,ho⟩:=hh
 have I:InstAt s.heap e o C none:=⟨he,hc,by obtain⟨_,_,_,_⟩:=o;dsimp only at hd;rw [hd];rfl,by rw [hdn];trivial⟩
 refine set_plain X I hs ?_
 have X':K.In ({s with toks:=s.toks+1}:Shared).heap:=X
 have I':InstAt ({s with toks:=s.toks+1}:Shared).heap e o C none:=I
 have SF:=PySem.F.store_object
 obtain⟨c1,r1,hmro,ho⟩:=excTop_is ho
 have ne:cd.mro.isEmpty=false:=by rw [hmro];rfl
 have sub:Looks (model prog w) s.heap (isInstance (.ref e) (.type "object")) true:=I.type.andThen (looks_mroIn X (by unfold mroIn;rw [hcd,Option.bind_some,if_neg (by rw [ne];decide),hmro,List.contains_cons,exc_has (by decide +kernel) ho,Bool.or_true]))
 refine codeAny_call_builtin SF.slot.plain SF.entry (@check_slot (model prog w) _ _ ({s with toks:=s.toks+1}:Shared) "object.__setattr__" "object" "__setattr__" (.ref e) [.str name s.toks,v] [] _ SF.kind SF.split sub (SF.args (.ref e) (.str name s.toks) v) ?_)
 refine byC λ nG=>?_
 obtain⟨attr,ha,hr⟩:=Option.bind_eq_some_iff.mp ht
 refine nG ?_
 have hm:Looks (model prog w) s.heap (mroOf (.ref C)) cd.mro:=(looks_clsIn X hcd).andThen .now
 have L3:Looks (model prog w) s.heap (storeTaker? attr) none:=by
  cases attr with
  | none=>exact .now
  | some a=>
   obtain⟨b,hb,hr⟩:=Option.map_eq_some_iff.mp hr
   refine(looks_takesIn X hb).andThen ?_
   cases b
   ·exact .now
   ·cases hr
 rw [osa_eq,refuse_eq]
 refine wpAny_bind (wpAny_bind (I'.type.here (wpAny_bind (hm.here (s:={s with toks:=s.toks+1}) ?_))))
 rw [hmro,refuseLoop_ref,refuse_exc _ ho]
 refine wpAny_pure (wpAny_bind (I'.type.here (wpAny_bind ((looks_findIn X' ha).here (wpAny_bind (L3.here (s:={s with toks:=s.toks+1}) ?_))))))
 refine wpAny_bind (wpAny_pure ?_)
 refine wpAny_bind ?_
 show wpAny _ _ (instanceDict e true) _ _ _
 refine byC λ nG=>?_
 obtain⟨oc,od,oda,osl⟩:=o
 refine nG ?_
 dsimp only at hc hdn hd
 subst hc hdn hd
 refine wpAny_bind (wpAny_loadPart he ?_)
 dsimp only
 refine wpAny_bind ((looks_clsIn X' hcd).here (s:={s with toks:=s.toks+1}) ?_)
 rw [hhd]
 rw [if_neg (by simp [typeHasDict])]
 have hx₁:(s.heap.push {cls:=.type "dict",data:=.dict #[]}).get? e=some ⟨.ref C,none,.fields vs,osl⟩:=Heap.get?_push_of_some _ he
 have hxs:e≠s.heap.objs.size:=Nat.ne_of_lt (Heap.lt_size he)
 have tail:∀{Q':Option Addr→Shared→Prop},Q' (some s.heap.objs.size) ⟨(s.heap.push {cls:=.type "dict",data:=.dict #[]}).update e λ(ob:PySem.Obj)=>({ob with dict:=some s.heap.objs.size}:PySem.Obj),s.gens,s.drawn,s.toks+1,s.os⟩→
   wpAny (model prog w) A.in1 (PySem.alloc {cls:=.type "dict",data:=.dict #[]} >>= λ d=>PySem.update e (λ(ob:PySem.Obj)=>({ob with dict:=some d}:PySem.Obj)) >>= λ _=>dictMade (.ref C) e d) Q' (λ e s'=>
   match Except.error e with
   | Except.ok (Flow.ret v)=>Q () s'
   | Except.ok a=>False
   | Except.error e=>E e s') ⟨s.heap,s.gens,s.drawn,s.toks+1,s.os⟩:=λ hQ=>by
  refine wpAny_bind (wpAny_alloc ?_)
  refine wpAny_bind (wpAny_update hx₁ ?_)
  exact wpAny_pure hQ
 refine tail ?_
 have hgd:((s.heap.push {cls:=.type "dict",data:=.dict #[]}).update e λ(ob:PySem.Obj)=>({ob with dict:=some s.heap.objs.size}:PySem.Obj)).get? s.heap.objs.size=some {cls:=.type "dict",data:=.dict #[]}:=
  (Heap.get?_update_ne _ _ _ _ hxs.symm).trans (Heap.get?_push_at rfl rfl)
 have hnd:((s.heap.push {cls:=.type "dict",data:=.dict #[]}).update e λ(ob:PySem.Obj)=>({ob with dict:=some s.heap.objs.size}:PySem.Obj)).Ns s.heap.objs.size (λ _=>none):=
  ⟨_,#[],_,hgd,rfl,λ e he=>absurd he (by simp),λ _=>rfl⟩
 show wpAny _ _ (storeInDict s.heap.objs.size (.str name s.toks) name v) _ _ _
 refine wpAny_bind (wpAny_pure (wpAny_bind (wpAny_nsSet1 (s:=⟨(s.heap.push {cls:=.type "dict",data:=.dict #[]}).update e λ(ob:PySem.Obj)=>({ob with dict:=some s.heap.objs.size}:PySem.Obj),s.gens,s.drawn,s.toks+1,s.os⟩) (Heap.Ns1.of_empty hnd) λ h' hn' hs=>?_)))
 refine byC λ nG=>?_
 obtain⟨oD,esD,epD,hoD,hdD,hcD⟩:=hn'.count (Within.cons name v Within.nil)
 refine nG ?_
 refine wpAny_bind (wpAny_lookBehind hoD (by rw [hdD];exact pastItsLine_dict (Nat.le_trans hcD (by dsimp only [List.length_cons,List.length_nil,sizeLine_eq];decide))) ?_)
 refine wpAny_pure ?_
 refine hq h' _ (λ b ob hb e1=>?_) ⟨⟨.ref C,some s.heap.objs.size,.fields vs,osl⟩,?_,rfl,rfl⟩
 ·exact(hs.2 b (Nat.ne_of_lt (Heap.lt_size e1))).trans ((Heap.get?_update_ne _ _ _ _ hb).trans (Heap.get?_push_of_some _ e1))
 ·exact(hs.2 e hxs).trans (Heap.get?_update_self _ hx₁ rfl)
end
end VS.Internal
end
section
open PySem PySem.W PySem.Calls PyProof.Rows PySem.SeqAt
set_option backward.match.sparseCases false
set_option maxRecDepth 100000
set_option maxHeartbeats 1000000
namespace VS.Internal
section
variable{prog:Program}{w:World}{A:Around}{E:Value→Shared→Prop}{h:Heap}{g:Array GenState}{d:Drawn}{t:Nat}{os:OsState}
variable{nm q:PySem.Str}{C N:Addr}{bs bm:List Value}{hdct:Bool}{sn:List PySem.Str}{sub:List Value}{ab:Bool}{col:Option Bool}{dd:Option Addr}{k0 k1 k2 k3 k5:Option Value}
theorem ve:PySem.ExcBaseFacts "ValueError" "ValueError.__new__" "ValueError.__init__" [.type "ValueError",.type "Exception",.type "BaseException",.type "object"]:=PySem.F.excBase_ValueError
theorem check_new_own{M:Model}(ho:excOver bm=true){rest:List Value}{Q:Unit→Shared→Prop}(hC:h.get? C=some (excClassObj nm q C N bs bm hdct sn sub ab col dd k0 k1 k2 k3 k5 "ValueError.__new__"))
  (hq:Q () ⟨h,g,d,t,os⟩):wpAny M A (checkBuiltinCall "ValueError.__new__" ⟨.ref C::rest,[]⟩) Q E ⟨h,g,d,t,os⟩:=by
 have F:=ve
 have hcont:(Value.ref C::bm).contains (.type "ValueError")=true:=by rw [List.contains_cons,exc_has (by decide +kernel) ho,Bool.or_true]
 have hstar:=F.noStar
 simp only [checkBuiltinCall,F.newKind,F.newSplit,F.newRow]
 repeat (first | refine wpAny_loadPart_at hC ?_ | (refine wpAny_isSubtype_exc hC ?_;rw [hcont]) | refine wpAny_staticBase_exc hC ?_ | refine wpAny_madeBy_exc hC ?_ | simp only [bne_self_eq_false,Bool.false_eq_true,if_false] | wp_step)
 exact hq
theorem exc_new_own{R:Result→Shared→Prop}(ho:excOver bm=true){rest:List Value}(hC:h.get? C=some (excClassObj nm q C N bs bm hdct sn sub ab col dd k0 k1 k2 k3 k5 "ValueError.__new__"))
  (hq:R (.ok (.ret (.ref (h.objs.size+1)))) ⟨(h.push {cls:=.type "tuple",data:=.seq rest.toArray}).push
   {cls:=.ref C,data:=.fields #[.ref h.objs.size,.none,.none,.none,.bool false,.none]},g,d,t,os⟩) (hrest:rest.length≤sizeLine) :
  codeAny (model prog w) A (.builtin "ValueError.__new__" ⟨.ref C::rest,[]⟩) R ⟨h,g,d,t,os⟩:=by
 have F:=ve
 have hends:=F.ends
 have hcB:(Value.ref C::bm).contains (.type "ValueError")=true:=by rw [List.contains_cons,exc_has (by decide +kernel) ho,Bool.or_true]
 have hcA:(Value.ref C::bm).contains (.type "AttributeError")=false:=by rw [List.contains_cons,exc_hasnt (by decide +kernel) ho];rfl
 have hcN:(Value.ref C::bm).contains (.type "NameError")=false:=by rw [List.contains_cons,exc_hasnt (by decide +kernel) ho];rfl
 refine codeAny_builtinAt F.entry ?_
 unfold Builtin.«BaseException.__new__»
 refine PySem.wpAt_bind ?_
 show PySem.wpAt _ _ _ (stack >>= _) _ _ _
 refine PySem.wpAt_bind (PySem.wpAt_stack λ p below=>PySem.wpAt_of_wpAny ?_)
 wp_walk
 refine PySem.wpAt_of_wpAny ?_
 rw [F.owner]
 repeat (first | with_reducible refine wpAny_madeHere_exc F.canon hC ?_ | with_reducible refine wpAny_loadPart_at hC ?_ | (with_reducible refine wpAny_isSubtype_exc hC ?_;first | rw [hcB] | rw [hcA] | rw [hcN]) | wp_step)
 show R _ _
 rw [Heap.size_push]
 exact hq
theorem type_call_own{K:Frag}(X:K.In h)(ho:excOver bm=true){rest:List Value}{fI:Addr}{Q:Fin→Shared→Prop}
  (hC:h.get? C=some (excClassObj nm q C N bs bm hdct sn sub ab col dd k0 k1 k2 k3 k5 "ValueError.__new__")) (hi:findIn K (.ref C) "__init__" = some (some (.ref fI))) (hfI:typeIn K (.ref fI)=some (.type "function"))
  (hq:∀ h' e,Heap.MadeExcOf h h' e (.ref C) rest→
   wpAny (model prog w) A (PySem.call (.ref fI) (.ref e::rest)) (λ r s'=>r = .none∧Q (.done (.ret (.ref e))) s') E ⟨h',g,d,t,os⟩) (hrest:rest.length≤sizeLine) :
  wpAny (model prog w) A (Builtin.«type.__call__» ⟨.ref C::rest,[]⟩) Q E ⟨h,g,d,t,os⟩:=by
 have F:=ve
 repeat (first | with_reducible refine wpAny_loadPart_at hC ?_ | with_reducible refine wpAny_madeBy_exc hC ?_ | wp_step)
 refine codeAny_call_builtin_code (Code.quiet_builtin _ F.quiet) (check_new_own ho hC ?_)
 refine exc_new_own ho hC ?_ hrest
 show wpAny _ _ _ _ _ _
 have kp:∀ b o,h.get? b=some o→((h.push {cls:=.type "tuple",data:=.seq rest.toArray}).push {cls:=.ref C,data:=.fields #[.ref h.objs.size,.none,.none,.none,.bool false,.none]}).get? b=some o:=λ b o e=>
  Heap.get?_push_of_some _ (Heap.get?_push_of_some _ e)
 have hC₁:=kp _ _ hC
 have X₁:K.In ((h.push {cls:=.type "tuple",data:=.seq rest.toArray}).push {cls:=.ref C,data:=.fields #[.ref h.objs.size,.none,.none,.none,.bool false,.none]}):=X.keeps kp
 have hget:((h.push {cls:=.type "tuple",data:=.seq rest.toArray}).push
   {cls:=.ref C,data:=.fields #[.ref h.objs.size,.none,.none,.none,.bool false,.none]}).get? (h.objs.size+1)=some
   {cls:=.ref C,data:=.fields #[.ref h.objs.size,.none,.none,.none,.bool false,.none]}:=by heap_get
 have hcC:(Value.ref C::bm).contains (.ref C)=true:=by simp
 unfold isInstance
 repeat (first | with_reducible refine wpAny_loadPart_at hget ?_ | (with_reducible refine wpAny_isSubtype_exc hC₁ ?_;rw [hcC]) | wp_step)
 show wpAny _ _ (typeLookup (.ref C) _) _ _ _
 refine(looks_findIn X₁ hi).at ?_
 refine wpAny_holding (wpAny_bind ?_)
 refine(bind_fn X₁ _ hfI).at ?_
 refine wpAny_bind (wpAny_mono (hq _ (h.objs.size+1) ⟨λ b o hb=>kp b o hb,Heap.get?_none_of_le (Nat.le_succ _),h.objs.size,hget,Heap.get?_none_of_le (Nat.le_refl _),?_⟩) (λ r s' hr=>?_) λ _ _ x=>x)
 ·exact Heap.get?_push_of_some _ (Heap.get?_push_at rfl rfl)
 ·obtain⟨rfl,hQ⟩:=hr
  wp_walk
  exact hQ
theorem call_own{K:Frag}(X:K.In h)(ho:excOver bm=true){rest:List Value}{fI:Addr}{Q:Value→Shared→Prop}
  (hC:h.get? C=some (excClassObj nm q C N bs bm hdct sn sub ab col dd k0 k1 k2 k3 k5 "ValueError.__new__")) (hi:findIn K (.ref C) "__init__" = some (some (.ref fI))) (hfI:typeIn K (.ref fI)=some (.type "function"))
  (hq:∀ h' e,Heap.MadeExcOf h h' e (.ref C) rest→
   wpAny (model prog w) (A.under (.builtin "type.__call__" ⟨.ref C::rest,[]⟩)) (PySem.call (.ref fI) (.ref e::rest)) (λ r s'=>r = .none∧Q (.ref e) s') E ⟨h',g,d,t,os⟩) (hrest:rest.length≤sizeLine) :
  wpAny (model prog w) A (PySem.call (.ref C) rest) Q E ⟨h,g,d,t,os⟩:=by
 have f1:=tc_lookup
 have f2:=tc_bind (.ref C)
 have hT:(⟨h,g,d,t,os⟩:Shared).TypeIs (.ref C) "type":=⟨_,hC,rfl⟩
 refine wpAny_call (codeAny_of_tree ?_)
 show wpAny _ _ (callAny (.ref C) _) _ _ _
 repeat (any_goals (first | assumption | with_reducible refine wpAny_loadPart_at hC ?_ | wp_step))
 refine⟨rfl,?_⟩
 refine codeAny_call_builtin_at (Code.quiet_builtin _ (by decide +kernel)) entry_typeCall (wpAny_check_type_call_sub hC (type_call_own X ho hC hi hfI (λ h' e hm=>?_) hrest))
 exact hq h' e hm
end
end VS.Internal
end
section
open PySem PySem.W PySem.Calls PyProof.Rows PySem.SeqAt
set_option backward.match.sparseCases false
set_option maxRecDepth 100000
namespace VS.Internal
section
variable{K:Frag}{φ:Ph}{nw:Nw}
theorem KRs.append{a b:List (PySem.Str × V)}{x y:List (PySem.Str × Value)}(h:KRs K φ nw a x)(h':KRs K φ nw b y):KRs K φ nw (a++b) (x++y):=L2.append h' h
theorem KRs.zip{ns:List PySem.Str}:∀{vs:List V}{us:List Value},VRs K φ nw vs us→KRs K φ nw (ns.zip vs) (ns.zip us):=by
 induction ns with
 | nil=>exact λ _=>rfl
 | cons n ns ih=>
  intro vs us h
  cases vs with
  | nil=>cases (h:us=[]);exact rfl
  | cons v vs=>cases L2.inv h with | mk u r e h1 h2=>rw [e];exact L2.cons (R:=KE K φ nw) ⟨rfl,h1⟩ (ih h2)
theorem KRs.lookup(n:PySem.Str){a:List (PySem.Str × V)}:∀{x:List (PySem.Str × Value)},KRs K φ nw a x→(a.lookup n).elim (x.lookup n=none) λ v=>∃ u,x.lookup n=some u∧VR K φ nw v u:=by
 induction a with
 | nil=>intro x h;cases (h:x=[]);rfl
 | cons p r ih=>
  intro x h
  refine byC λ nG=>?_
  obtain⟨⟨k',u⟩,q,rfl,⟨hk,h1⟩,h2⟩:=L2.inv h
  refine nG ?_
  obtain⟨k,v⟩:=p
  cases (hk:k'=k)
  dsimp only [List.lookup_cons]
  cases n==k' with
  | true=>exact⟨u,rfl,h1⟩
  | false=>exact ih h2
theorem KRs.isNone{n:PySem.Str}{a:List (PySem.Str × V)}{x:List (PySem.Str × Value)}(h:KRs K φ nw a x):(x.lookup n).isNone=(a.lookup n).isNone:=by
 have:=h.lookup n
 refine oC (a.lookup n) (λ e=>?_) λ v e=>?_<;>rw [e] at this ⊢
 ·rw [show x.lookup n=none from this];rfl
 ·exact Exists.elim this λ u q=>by rw [q.1];rfl
theorem KRs.fill{d:List (PySem.Str × V)}:∀{e:List (PySem.Str × Value)}{a:List (PySem.Str × V)}{x:List (PySem.Str × Value)},KRs K φ nw d e→KRs K φ nw a x→KRs K φ nw (fill d a) (fill e x):=by
 induction d with
 | nil=>intro e a x h h';cases (h:e=[]);exact h'
 | cons p r ih=>
  intro e a x h h'
  cases L2.inv h with | mk y q e h1 h2=>
  rw [e]
  refine ih (a:=if(a.lookup p.1).isNone then a++[p] else a) (x:=if(x.lookup y.1).isNone then x++[y] else x) h2 ?_
  rw [h1.1,h'.isNone]
  cases (a.lookup p.1).isNone with
  | true=>exact h'.append (L2.cons (R:=KE K φ nw) h1 rfl)
  | false=>exact h'
theorem KRs.pick{a:List (PySem.Str × V)}{x:List (PySem.Str × Value)}(h:KRs K φ nw a x)(ns:List PySem.Str):KRs K φ nw (ns.filterMap λ n=>(a.lookup n).map (n,·)) (ns.filterMap λ n=>(x.lookup n).map (n,·)):=by
 induction ns with
 | nil=>exact rfl
 | cons n ns ih=>
  have:=h.lookup n
  rw [List.filterMap_cons,List.filterMap_cons]
  refine oC (a.lookup n) (λ e=>?_) λ v e=>?_<;>rw [e] at this ⊢
  ·rw [show x.lookup n=none from this]
   exact ih
  ·exact Exists.elim this λ u q=>by rw [q.1];exact L2.cons (R:=KE K φ nw) ⟨rfl,q.2⟩ ih
theorem KRs.bind{ns:List PySem.Str}{vs:List V}{us:List Value}{kws:List (PySem.Str × V)}{kus:List (PySem.Str × Value)}{ds:List V}{dus:List Value}(h1:VRs K φ nw vs us)(h2:KRs K φ nw kws kus)(h3:VRs K φ nw ds dus) :
  KRs K φ nw (bindP ns vs kws ds) (bindP ns us kus dus):=by
 unfold bindP
 rw [h3.length]
 exact KRs.pick (KRs.fill (KRs.zip h3) ((KRs.zip h1).append h2)) ns
theorem KRs.keys{a:List (PySem.Str × V)}:∀{x:List (PySem.Str × Value)},KRs K φ nw a x→x.map (·.1)=a.map (·.1):=by
 induction a with
 | nil=>intro x h;cases (h:x=[]);rfl
 | cons p r ih=>
  intro x h
  cases L2.inv h with | mk y q e h1 h2=>
  rw [e,List.map_cons,List.map_cons,ih h2,h1.1]
theorem KRs.get{n:PySem.Str}{v:V}{a:List (PySem.Str × V)}:∀{x:List (PySem.Str × Value)},KRs K φ nw a x→lk n a=some v→∃ u,(n,u)∈x∧VR K φ nw v u:=by
 induction a with
 | nil=>exact λ _ e=>no_some e
 | cons p r ih=>
  intro x h e
  cases L2.inv h with | mk y q e1 h1 h2=>
  rw [e1]
  replace e:(if p.1==n then some p.2 else lk n r)=some v:=e
  refine bC (p.1==n) (λ z=>?_) λ z=>?_
  ·rw [if_pos z] at e
   exact⟨y.2,((eq_of_beq z).symm.trans h1.1.symm)▸.head _,Option.some.inj e▸h1.2⟩
  ·rw [if_neg (ne_true_of_eq_false z)] at e
   exact(ih h2 e).imp λ u k=>⟨.tail _ k.1,k.2⟩
end
theorem forIn_slots{α:Type}{names:List PySem.Str}{f:PySem.Str × α→List (PySem.Str × α) × List (PySem.Str × α)→Sem (ForInStep (List (PySem.Str × α) × List (PySem.Str × α)))}
  (hf:∀ k v sl ex,names.contains k=true→(sl.lookup k).isSome=false→f (k,v) (sl,ex)=pure (.yield (sl++[(k,v)],ex)))
  (kus:List (PySem.Str × α)):∀(sl ex:List (PySem.Str × α)) (used:List PySem.Str),(∀ k,(sl.lookup k).isSome=true→k∈used)→okKw names used (kus.map (·.1))=true→forIn kus (sl,ex) f=pure (sl++kus,ex):=by
 induction kus with
 | nil=>intro sl ex _ _ _;simp only [List.forIn_nil,List.append_nil]
 | cons p r ih=>
  intro sl ex used hu ho
  obtain⟨k,v⟩:=p
  replace ho:(names.contains k && !used.contains k&&okKw names (used++[k]) (r.map (·.1)))=true:=ho
  rw [Bool.and_eq_true,Bool.and_eq_true] at ho
  have hk:(sl.lookup k).isSome=false:=bC (sl.lookup k).isSome (λ q=>by simp [hu k q] at ho) id
  rw [List.forIn_cons,hf k v sl ex ho.1.1 hk,pure_bind]
  refine(ih (sl++[(k,v)]) ex (used++[k]) (λ y hy=>?_) ho.2).trans ?_
  rotate_left
  ·rw [List.append_assoc];rfl
  ·rw [List.lookup_append] at hy
   refine oC (sl.lookup y) (λ q=>?_) λ w q=>List.mem_append_left _ (hu y (by rw [q];rfl))
   rw [q] at hy
   refine bC (y==k) (λ hyk=>by rw [eq_of_beq hyk];simp) λ hyk=>?_
   dsimp only [Option.none_or,List.lookup_cons] at hy
   rw [hyk] at hy
   exact nomatch hy
theorem forIn_fill{α:Type}{f:PySem.Str × α→List (PySem.Str × α)→Sem (ForInStep (List (PySem.Str × α)))}
  (hf:∀ n d sl,f (n,d) sl=pure (.yield (if(sl.lookup n).isNone then sl++[(n,d)] else sl))) (l:List (PySem.Str × α)):∀ sl,forIn l sl f=pure (fill l sl):=by
 induction l with
 | nil=>exact λ _=>List.forIn_nil
 | cons p r ih=>intro sl;rw [List.forIn_cons,hf p.1 p.2,pure_bind];exact ih _
theorem zip_used{α:Type}{k:PySem.Str}(ns:List PySem.Str):∀(us:List α),((ns.zip us).lookup k).isSome=true→k∈ns.take us.length:=by
 induction ns with
 | nil=>exact λ _ h=>nomatch h
 | cons n ns ih=>
  intro us h
  cases us with
  | nil=>exact nomatch h
  | cons u us=>
   dsimp only [List.zip_cons_cons,List.lookup_cons] at h
   refine bC (k==n) (λ hk=>?_) λ hk=>?_
   ·rw [eq_of_beq hk];exact .head _
   ·rw [hk] at h;exact .tail _ (ih us h)
theorem wp_eq{M:Model}{A:Around}{E:Value→Shared→Prop}{s:Shared}{α β:Type}{m:Sem α}{k:α→Sem β}{a:α}{Q:β→Shared→Prop}(h:m=pure a)(hk:wpAny M A (k a) Q E s):wpAny M A (m >>= k) Q E s:=by
 rw [h,pure_bind];exact hk
theorem wp_no{M:Model}{A:Around}{E:Value→Shared→Prop}{s:Shared}{β:Type}{b:Bool}{m n:Sem β}{Q:β→Shared→Prop}(h:b=false)(hk:wpAny M A n Q E s):wpAny M A (if b=true then m else n) Q E s:=by
 rw [h];exact hk
theorem ar_eq{a:Arguments}(h1:a.posonlyargs=[])(h2:a.vararg=none)(h3:a.kwonlyargs=[])(h4:a.kwarg=none):a=⟨[],a.args,none,[],a.kw_defaults,none,a.defaults⟩:=by
 obtain⟨_,_,_,_,_,_,_⟩:=a
 cases h1;cases h2;cases h3;cases h4;rfl
theorem fd_eq{fd:FuncData}{p:Arguments}(h:fd.params=p):fd = {fd with params:=p}:=congrArg (λ p=>({fd with params:=p}:FuncData)) h
theorem bindArgs_ok{M:Model}{A:Around}{E:Value→Shared→Prop}{s:Shared}{fd:FuncData}{us:List Value}{kus:List (PySem.Str × Value)}{dus:List Value}{Q:List (PySem.Str × Value)→Shared→Prop}
  (h1:fd.params.posonlyargs=[]) (h2:fd.params.vararg=none) (h3:fd.params.kwonlyargs=[]) (h4:fd.params.kwarg=none)
  (hd:∀{Q:Option (Array Value)→Shared→Prop},(∀ r,(r.getD #[]).toList=dus→Q r s)→wpAny M A (seqItems? fd.defaults) Q E s)
  (hl:us.length≤(fd.params.args.map (·.arg)).length) (hdl:dus.length≤(fd.params.args.map (·.arg)).length)
  (hk:okKw (fd.params.args.map (·.arg)) ((fd.params.args.map (·.arg)).take us.length) (kus.map (·.1))=true)
  (hm:((fd.params.args.map (·.arg)).take ((fd.params.args.map (·.arg)).length-dus.length)).all (λ n=>((((fd.params.args.map (·.arg)).zip us)++kus).lookup n).isSome)=true)
  (hQ:Q (bindP (fd.params.args.map (·.arg)) us kus dus) s):wpAny M A (bindArgs fd ⟨us,kus⟩) Q E s:=by
 rw [fd_eq (ar_eq h1 h2 h3 h4)]
 refine wp_eq (forIn_slots (names:=fd.params.args.map (·.arg)) (λ k v sl ex q1 q2=>?_) kus ((fd.params.args.map (·.arg)).zip us) [] ((fd.params.args.map (·.arg)).take us.length) (λ k hk=>zip_used _ us hk) hk) ?_
 ·show(if((fd.params.args.map (·.arg)).contains k||([]:List PySem.Str).contains k)=true then _ else _)=_
  rw [if_pos (by rw [q1];rfl)]
  rw [q2];rfl
 refine wpAny_bind (hd λ r hr=>?_)
 have hdrop:(r.getD #[]).toList.drop ((r.getD #[]).toList.length-(fd.params.args.map (·.arg)).length)=dus:=by rw [hr,Nat.sub_eq_zero_of_le hdl,List.drop_zero]
 refine wp_no ?_ ?_
 ·show(decide ((fd.params.args.map (·.arg)).length<us.length)&&_)=false
  rw [decide_eq_false (Nat.not_lt.mpr hl)];rfl
 refine wp_no ?_ ?_
 ·show(!(((fd.params.args.map (·.arg)).take ((fd.params.args.map (·.arg)).length-((r.getD #[]).toList.drop ((r.getD #[]).toList.length-(fd.params.args.map (·.arg)).length)).length)).filter λ n=>((((fd.params.args.map (·.arg)).zip us)++kus).lookup n).isNone).isEmpty)=false
  rw [hdrop,show(((fd.params.args.map (·.arg)).take ((fd.params.args.map (·.arg)).length-dus.length)).filter λ n=>((((fd.params.args.map (·.arg)).zip us)++kus).lookup n).isNone)=[] from ?_]
  ·rfl
  rw [List.filter_eq_nil_iff]
  intro n hn
  rw [←Option.not_isSome,List.all_eq_true.mp hm n hn]
  exact Bool.false_ne_true
 refine wp_eq (forIn_fill (λ n d sl=>?_) _ _) ?_
 ·show(if(sl.lookup n).isNone=true then _ else _)=_
  cases (sl.lookup n).isNone<;>rfl
 refine wpAny_pure ?_
 rw [←hdrop] at hQ
 show Q (List.filterMap _ (fd.params.args.map (·.arg)++[])) s
 rw [List.append_nil]
 exact hQ
end VS.Internal
end
section
open PySem PySem.W PySem.Calls PyProof.Rows PySem.SeqAt
set_option backward.match.sparseCases false
set_option maxRecDepth 100000
namespace VS.Internal
noncomputable def calleeC(c:Cx)(env:Env)(L:Addr):Cx:={A:=c.A.deeper env,env₀:=env,outer:=c.env₀ :: c.outer,b₀:=c.b₀,L:=L}
noncomputable def clf(fd:FuncData)(L:Addr):List (PySem.Str × Addr):=cellsFrom (L+1) fd.scope.names []
noncomputable def calleeE(fd:FuncData)(a L:Addr):Env:=newEnv fd.scope L mainGlobals (clf fd L) (fd.qualname ++ ".<locals>.") (some a) fd.code none builtinsNs
set_option backward.match.sparseCases true in
noncomputable def retV(f:Flow):Value:=match f with | .ret v=>v | _=>.none
noncomputable def cxOf(A:Around)(outer:List Env)(b₀:Heap)(fd:FuncData)(a L:Addr):Cx:={A:=A.deeper (calleeE fd a L),env₀:=calleeE fd a L,outer:=outer,b₀:=b₀,L:=L}
structure OkFn(K:Frag)(fd:FuncData):Prop where
 po:fd.params.posonlyargs=[]
 va:fd.params.vararg=none
 ko:fd.params.kwonlyargs=[]
 kw:fd.params.kwarg=none
 co:fd.scope.isCoroutine=false
 ge:fd.scope.isGenerator=false
 ki:fd.scope.kind = .function
 cl:fd.closure=[]
 gl:fd.globals=mainGlobals
 bu:fd.builtins=builtinsNs
 cd:codeIn K fd.code fd.qualname=true
 nd:(pn fd).Nodup
 fr:∀ p∈fd.scope.names,p.2≠.free
 nm:∀ n∈pn fd,fd.scope.names.lookup n=some .local∨(fd.scope.names.lookup n=some .cell∧n∈(cellsFrom 0 fd.scope.names []).map (·.1))
theorem okFn_is{K:Frag}{fd:FuncData}(h:okFn K fd=true):OkFn K fd:=by
 unfold okFn okNames at h
 simp only [Bool.and_eq_true,List.all_eq_true,beq_iff_eq,bne_iff_ne,Bool.or_eq_true,Bool.not_eq_true',decide_eq_true_eq,List.isEmpty_iff,Option.isNone_iff_eq_none,List.contains_iff_mem] at h
 exact⟨h.1.1.1.1.1.1.1.1.1.1.1.1,h.1.1.1.1.1.1.1.1.1.1.1.2,h.1.1.1.1.1.1.1.1.1.1.2,h.1.1.1.1.1.1.1.1.1.2,h.1.1.1.1.1.1.1.1.2,h.1.1.1.1.1.1.1.2,h.1.1.1.1.1.1.2,h.1.1.1.1.1.2,h.1.1.1.1.2,h.1.1.1.2,h.1.1.2,h.1.2,h.2.1,h.2.2⟩
theorem lookup_isSome_of_mem{α:Type}{n:PySem.Str}{l:List (PySem.Str × α)}:n∈l.map (·.1)→(l.lookup n).isSome=true:=by
 induction l with
 | nil=>exact λ h=>nomatch h
 | cons p r ih=>
  intro h
  obtain⟨k,v⟩:=p
  dsimp only [List.lookup_cons]
  refine bC (n==k) (λ q=>by rw [q];rfl) λ q=>?_
  rw [q]
  exact ih ((List.mem_cons.mp h).resolve_left λ z=>absurd (beq_iff_eq.mpr z) (ne_true_of_eq_false q))
theorem bind_keys{α:Type}(names:List PySem.Str)(pos:List α)(kw:List (PySem.Str × α))(d:List α):((bindP names pos kw d).map (·.1)).Sublist names:=by
 unfold bindP
 generalize fill _ _=sl
 induction names with
 | nil=>exact List.Sublist.refl _
 | cons n r ih=>
  as_aux_lemma=>
   dsimp only [List.filterMap_cons]
   cases sl.lookup n with
   | none=>exact .cons _ ih
   | some v=>exact .cons₂ _ ih
theorem bindL_other(kindOf:PySem.Str→Option NameKind){n:PySem.Str}(l:List (PySem.Str × Value)):∀(m:PySem.Str→Option Value),n∉l.map (·.1)→bindL kindOf l m n=m n:=by
 induction l with
 | nil=>exact λ _ _=>rfl
 | cons p r ih=>
  intro m h
  rw [List.map_cons,List.mem_cons,not_or] at h
  refine(ih _ h.2).trans ?_
  by_cases q:kindOf p.1=some .local
  ·rw [if_pos q];exact if_neg h.1
  ·rw [if_neg q]
theorem bindL_at(kindOf:PySem.Str→Option NameKind):∀(l:List (PySem.Str × Value)) (m:PySem.Str→Option Value) (n:PySem.Str) (u:Value),(l.map (·.1)).Nodup→(n,u)∈l→kindOf n=some .local→bindL kindOf l m n=some u
 :=by
 intro l
 induction l with
 | nil=>intro m n u nd h;cases h
 | cons p r ih=>
  intro m n u nd h hk
  obtain⟨k,v⟩:=p
  obtain⟨nd1,nd2⟩:=List.nodup_cons.mp nd
  rcases List.mem_cons.mp h with q | h
  ·cases q
   refine(bindL_other kindOf r _ nd1).trans ?_
   rw [if_pos hk]
   exact if_pos rfl
  ·exact ih _ n u nd2 h hk
theorem bindC_other(kindOf:PySem.Str→Option NameKind){n:PySem.Str}(l:List (PySem.Str × Value)):∀(m:PySem.Str→Option Value),n∉l.map (·.1)→bindC kindOf l m n=m n:=by
 induction l with
 | nil=>exact λ _ _=>rfl
 | cons p r ih=>
  intro m h
  rw [List.map_cons,List.mem_cons,not_or] at h
  refine(ih _ h.2).trans ?_
  by_cases q:kindOf p.1=some .local
  ·rw [if_pos q]
  ·rw [if_neg q];exact if_neg h.1
theorem bindC_at(kindOf:PySem.Str→Option NameKind):∀(l:List (PySem.Str × Value)) (m:PySem.Str→Option Value) (n:PySem.Str) (u:Value),(l.map (·.1)).Nodup→(n,u)∈l→kindOf n≠some .local→bindC kindOf l m n=some u
 :=by
 intro l
 induction l with
 | nil=>intro m n u nd h;cases h
 | cons p r ih=>
  intro m n u nd h hk
  obtain⟨k,v⟩:=p
  obtain⟨nd1,nd2⟩:=List.nodup_cons.mp nd
  rcases List.mem_cons.mp h with q | h
  ·cases q
   refine(bindC_other kindOf r _ nd1).trans ?_
   rw [if_neg hk]
   exact if_pos rfl
  ·exact ih _ n u nd2 h hk
noncomputable def cellNw(h:Heap)(cl:List (PySem.Str × Addr)):Nw:=cl.filterMap λ p=>(h.get? p.2).map (p.2,·)
section
variable{g:G0}{c:Cx}{m:PySem.Str→Option Value}{φ:Ph}{nw:Nw}{H:Hp}{s:Shared}{n:Nat}
theorem dflt_seq{d:Value}{ds:List V}(S:St g c m φ nw H s)(X:g.K.In s.heap)(hds:dfltK g.K d=some ds):∃ dus,VRs g.K φ nw ds dus∧∀{A:Around}{E:Value→Shared→Prop}{Q:Option (Array Value)→Shared→Prop},(∀ r,(r.getD #[]).toList=dus→Q r s)→wpAny (model g.prog g.w) A (seqItems? d) Q E s:=by
 refine bC (Nat.beq d.ctorIdx 0) (λ q=>?_) λ q=>?_
 ·cases (if_pos q).symm.trans hds
  exact⟨[],VRs.nil,λ hQ=>vNone_is q▸wpAny_pure (hQ none rfl)⟩
 ·refine bind_is ((if_neg (ne_true_of_eq_false q)).symm.trans hds) λ a e h=>(tupK_is h).elim λ xs h=>h.elim λ n h=>h.elim λ sl h=>?_
  rw [vRef_is e]
  exact⟨xs.toList,intsOf_VRs h.2,λ hQ=>wpAny_seqItems (X _ _ h.1) rfl (hQ _ rfl)⟩
end
end VS.Internal
end
section
open PySem PySem.W PySem.Calls PyProof.Rows PySem.SeqAt
set_option backward.match.sparseCases false
set_option maxRecDepth 100000
namespace VS.Internal
structure SI(g:G0)(c:Cx)(sc:Scope)(φ₀:Ph)(nw₀:Nw)(s₀:Shared)(ρ:Lo)(φ:Ph)(nw:Nw)(H:Hp)(m:PySem.Str→Option Value)(s:Shared):Prop where
 S:St g c m φ nw H s
 O:EnvOk g c c.env₀ sc ρ m φ nw
 x:Ext φ₀ nw₀ φ nw
 u:Upto s₀ s
 f0:FrsOk φ₀ nw₀ c.outer
 o0:HOk c.A φ₀ nw₀
 lo:c.env₀.locals=c.L
 off:∀ x cc,c.env₀.cells.lookup x=some cc→∀ p∈nw₀,p.1≠cc
 inj:∀ x y cc,c.env₀.cells.lookup x=some cc→c.env₀.cells.lookup y=some cc→x=y
 alive:∀ x cc,c.env₀.cells.lookup x=some cc→∃ o v,(cc,o)∈nw∧cc∉mutA φ∧o.data = .cell v
 has:∀ x,sc.names.lookup x=some .cell→∃ cc,c.env₀.cells.lookup x=some cc
 kc:∀ x,sc.names.lookup x=some .cell→c.env₀.kindOf x=some .cell
inductive AP(g:G0)(c:Cx)(sc:Scope)(φ₀:Ph)(nw₀:Nw)(s₀:Shared)(k:Lo→M Fl)(P:Fl→Hp→Prop)(X:Addr→Hp→Prop)(s':Shared):Prop
 | mk (ρ:Lo) (φ:Ph) (nw:Nw) (H:Hp) (m:PySem.Str→Option Value) (J:SI g c sc φ₀ nw₀ s₀ ρ φ nw H m s') (h:Run (k ρ H) P X)
noncomputable def SPost(g:G0)(c:Cx)(sc:Scope)(φ₀:Ph)(nw₀:Nw)(s₀:Shared)(k:Lo→M Fl)(P:Fl→Hp→Prop)(X:Addr→Hp→Prop):Flow→Shared→Prop:=λ f s'=>match f with
 | .next=>AP g c sc φ₀ nw₀ s₀ k P X s'
 | .ret v=>∃ φ nw H m w,St g c m φ nw H s'∧Ext φ₀ nw₀ φ nw∧Upto s₀ s'∧VR g.K φ nw w v∧P (.ret w) H
 | _=>False
noncomputable def SX(g:G0)(c:Cx)(φ₀:Ph)(nw₀:Nw)(s₀:Shared)(X:Addr→Hp→Prop):Value→Shared→Prop:=λ u s'=>∃ m,PostX g c m φ₀ nw₀ X s₀ u s'
section
variable{g:G0}{call:CallT}{hd:Bool}{k n:Nat}{c:Cx}{sc:Scope}{ρ:Lo}{m:PySem.Str→Option Value}{φ φ₀ φ':Ph}{nw nw₀ nw':Nw}{H H':Hp}{s s₀ s':Shared}{X:Addr→Hp→Prop}{P:Fl→Hp→Prop}{K:Lo→M Fl}
theorem SI.step(J:SI g c sc φ₀ nw₀ s₀ ρ φ nw H m s)(S':St g c m φ' nw' H' s')(x:Ext φ nw φ' nw')(u:Upto s s'):SI g c sc φ₀ nw₀ s₀ ρ φ' nw' H' m s':=
 {S:=S',O:=J.O.mono x.s,x:=J.x.trans x,u:=J.u.trans u,f0:=J.f0,o0:=J.o0,lo:=J.lo,off:=J.off,inj:=J.inj,has:=J.has,kc:=J.kc
  alive:=λ y cc h=>by
   refine byC λ nG=>?_
   obtain⟨o,v,h1,h2,h3⟩:=J.alive y cc h
   obtain⟨k1,k2⟩:=x.ex _ h1 h2 (λ es k q=>by rw [h3] at q;cases q)
   refine nG ?_
   exact⟨o,v,k1,k2,h3⟩}
theorem SX.of{u:Value}(J:SI g c sc φ₀ nw₀ s₀ ρ φ nw H m s)(h:PostX g c m φ nw X s u s'):SX g c φ₀ nw₀ s₀ X u s':=⟨m,PostX.mono J.x J.u h⟩
theorem SI.bind{α β:Type}{Rel:Ph→Nw→α→β→Prop}{P1:α→Hp→Prop}{A:Around}{t:Sem β}{T:β→Shared→Prop}(J:SI g c sc φ₀ nw₀ s₀ ρ φ nw H m s)
  (ht:wpAny (model g.prog g.w) A t (PostG Rel g c m φ nw P1 s) (PostX g c m φ nw X s) s)
  (k:∀ φ' nw' H' a u s',SI g c sc φ₀ nw₀ s₀ ρ φ' nw' H' m s'→Ext φ nw φ' nw'→Rel φ' nw' a u→P1 a H'→T u s') :
  wpAny (model g.prog g.w) A t T (SX g c φ₀ nw₀ s₀ X) s:=
 wpAny_mono ht (λ u s' h=>let ⟨φ',nw',H',a,S',x,hr,hP,hu⟩:=h;k φ' nw' H' a u s' (J.step S' x hu) x hr hP) λ _ _ h=>SX.of J h
theorem SI.name(J:SI g c sc φ₀ nw₀ s₀ ρ φ nw H m s){x:PySem.Str}{v:V}{u:Value}{A:Around}{E:Value→Shared→Prop}{T:Unit→Shared→Prop}(fx:Fx g c)
  (hk:sc.names.lookup x=some .local∨sc.names.lookup x=some .cell) (hv:VR g.K φ nw v u)
  (h:∀ nw' m' s',SI g c sc φ₀ nw₀ s₀ (put x v ρ) φ nw' H m' s'→ExtV φ nw φ nw'→(∀ p∈nw,(∀ cc,c.env₀.cells.lookup x=some cc→p.1≠cc)→p∈nw')→T () s') :
  wpAny (model g.prog g.w) A (storeName c.env₀ x u) T E s:=by
 rcases hk with hk | hk
 ·have hns:=J.S.F.ns
  refine wpAny_storeName_local (m:=m) (J.O.scl x hk) (by rw [J.lo];exact hns) (λ h' hn hs=>?_) (by rw [J.O.kind];rfl)
  rw [J.lo] at hn hs
  have S':St g c (λ y=>if y=x then some u else m y) φ nw H {s with heap:=h',toks:=s.toks+1}:=⟨J.S.F.set hn hs,J.S.N.set hs,J.S.C,J.S.fo,J.S.ho⟩
  refine h nw _ _ {S:=S',O:={J.O with loc:=.inl ⟨J.lo,λ y w hy e=>?_⟩,cel:=λ y w hy e=>?_},x:=J.x,u:=J.u.trans ⟨h',_,rfl⟩,f0:=J.f0,o0:=J.o0,lo:=J.lo,off:=J.off,inj:=J.inj,has:=J.has,kc:=J.kc,alive:=J.alive} ⟨List.prefix_refl _,λ p hp n _=>⟨.inl hp,n⟩⟩ λ _ hp _=>hp
  ·by_cases hyx:y=x
   ·cases hyx
    rw [lk_put_self] at e;cases e
    exact⟨u,if_pos rfl,hv⟩
   ·rw [lk_put_ne _ hyx] at e
    rcases J.O.loc with ⟨_,q⟩ | ⟨o,m₂,q1,_⟩
    ·obtain⟨u',e1,e2⟩:=q y w hy e
     exact⟨u',(if_neg hyx).trans e1,e2⟩
    ·rw [J.lo] at q1
     exact absurd rfl (J.S.N _ q1).2.1
  ·have hyx:y≠x:=λ q=>by rw [q,hk] at hy;rcases hy with hy | hy<;>cases hy
   rw [lk_put_ne _ hyx] at e
   exact J.O.cel y w hy e
 ·obtain⟨cc,hcc⟩:=J.has x hk
  refine byC λ nG=>?_
  obtain⟨o,v0,h1,h2,h3⟩:=J.alive x cc hcc
  refine nG ?_
  have tail:∀ h':Heap,(∃ o',h'.get? cc=some o'∧o'.data = .cell (some u))→Heap.SameBut cc s.heap h'→T () {s with heap:=h'}:=λ h' ⟨o',ho',hd'⟩ hs=>by
   have nv:¬ Val o:=noV h3 rfl
   obtain⟨S',v',x'⟩:=st_own (tk:=s.toks) J.S J.f0 J.o0 J.x (J.off x cc hcc) h1 nv h2 hs ho'
   refine h _ _ _ {S:=S',O:={J.O with loc:=?_,cel:=λ y w hy e=>?_},x:=x',u:=J.u.trans ⟨h',_,rfl⟩,f0:=J.f0,o0:=J.o0,lo:=J.lo,off:=J.off,inj:=J.inj,has:=J.has,kc:=J.kc,alive:=λ y c' hc'=>?_} v' λ p hp hne=>mem_nset hp (hne cc hcc)
   ·rcases J.O.loc with ⟨q0,q⟩ | ⟨o,m₂,q1,_⟩
    ·refine .inl ⟨q0,λ y w hy e=>?_⟩
     have hyx:y≠x:=λ q=>by rw [q,hk] at hy;exact nomatch hy
     rw [lk_put_ne _ hyx] at e
     refine byC λ nG=>?_
     obtain⟨u',e1,e2⟩:=q y w hy e
     refine nG ?_
     exact⟨u',e1,VR.monoV v' _ _ e2⟩
    ·rw [J.lo] at q1
     exact absurd rfl (J.S.N _ q1).2.1
   ·by_cases hyx:y=x
    ·cases hyx
     rw [lk_put_self] at e;cases e
     exact⟨cc,o',u,hcc,mem_nset_self,h2,hd',VR.monoV v' _ _ hv⟩
    ·rw [lk_put_ne _ hyx] at e
     refine byC λ nG=>?_
     obtain⟨c1,o1,u1,e1,e2,e3,e4,e5⟩:=J.O.cel y w hy e
     refine nG ?_
     exact⟨c1,o1,u1,e1,mem_nset e2 (λ q=>hyx (J.inj y x cc (by rw [e1];exact congrArg some q) hcc)),e3,e4,VR.monoV v' _ _ e5⟩
   ·obtain⟨o1,v1,e1,e2,e3⟩:=J.alive y c' hc'
    by_cases hq:c'=cc
    ·rw [hq]
     exact⟨o',some u,mem_nset_self,h2,hd'⟩
    ·exact⟨o1,v1,mem_nset e1 hq,e2,e3⟩
  exact wpAny_storeName_cell J.O.kind (J.kc x hk) hcc ⟨o,(J.S.N _ h1).1,h3⟩ λ h' hv' hs=>tail h' hv' hs
theorem passes(fx:Fx g c){A:Around}(hA:A.frames=c.A.frames){E:Value→Shared→Prop}(hE:∀ u s',SX g c φ₀ nw₀ s₀ X u s'→E u s')(u:Value)(s':Shared)(h:SX g c φ₀ nw₀ s₀ X u s') :
  notedBy (model g.prog g.w) A c.env₀ (cameBackBy (model g.prog g.w) c.A c.env₀ E) u s':=by
 refine byC λ nG=>?_
 obtain⟨m,e,C,φ1,nw1,H1,rfl,S1,x1,F1,hX,u1⟩:=h
 refine nG ?_
 refine note_sound fx S1 F1 hA λ h2 nw2 S2 x2 i2 F2=>?_
 refine wpAny_bind (field1_sound (s:={s' with heap:=h2}) F2 λ T=>?_)
 refine flight_sound fx S2 F2 λ h3 nw3 S3 x3 i3 F3=>hE _ _ ⟨m,e,C,φ1,nw3,H1,rfl,S3,(x1.trans x2).trans x3,F3.fly (.inr (by rw [fx.hf];rfl)),hX,u1.trans ⟨h3,s'.toks,rfl⟩⟩
end
end VS.Internal
end
section
open PySem PySem.W PySem.Calls PyProof.Rows PySem.SeqAt
set_option backward.match.sparseCases false
set_option maxRecDepth 100000
namespace VS.Internal
theorem tripL_is{α:Type}{l:List α}{p:α × α × α}(h:tripL l=some p):l=[p.1,p.2.1,p.2.2]:=bind_is h λ q e h=>map_is h λ r e' h=>by rw [consL_is e,pairL_is e',←h]
theorem quadL_is{α:Type}{l:List α}{p:α × α × α × α}(h:quadL l=some p):l=[p.1,p.2.1,p.2.2.1,p.2.2.2]:=bind_is h λ q e h=>map_is h λ r e' h=>by rw [consL_is e,tripL_is e',←h]
inductive UN{α:Type}(k:Nat)(v:V)(f:List V→M α)(H:Hp)(P:α→Hp→Prop)(X:Addr→Hp→Prop):Prop
 | mk (vs:List V) (e:v = .tup vs) (l:k=vs.length) (h:Run (f vs H) P X)
theorem run_unL{α β:Type}{k:Nat}{v:V}{f:List V→M α}{o:List V→Option β}{g:β→M α}{t:β→List V}{H:Hp}{P:α→Hp→Prop}{X:Addr→Hp→Prop}(h:Run (unT v (λ vs=>onSome (o vs) g) H) P X)
  (ho:∀ vs p,o vs=some p→vs=t p) (hg:∀ p,g p=f (t p)) (hk:∀ p,k=(t p).length):UN k v f H P X:=by
 refine byC λ nG=>?_
 obtain⟨vs,e,h1⟩:=unT_is h
 obtain⟨p,e1,h2⟩:=onSome_is h1
 exact nG ⟨t p,e.trans (congrArg V.tup (ho vs p e1)),hk p,hg p▸h2⟩
theorem run_un{α:Type}{k:Nat}{v:V}{f:List V→M α}{H:Hp}{P:α→Hp→Prop}{X:Addr→Hp→Prop}(h:Run (unt k v f H) P X):UN k v f H P X:=by
 rcases k with _ | _ | _ | _ | _ | k
 ·exact h.elim
 ·exact run_unL (t:=λ a=>[a]) h (λ _ _=>oneL_is) (λ _=>rfl) λ _=>rfl
 ·exact run_unL (t:=λ p=>[p.1,p.2]) h (λ _ _=>pairL_is) (λ _=>rfl) λ _=>rfl
 ·exact run_unL (t:=λ p=>[p.1,p.2.1,p.2.2]) h (λ _ _=>tripL_is) (λ _=>rfl) λ _=>rfl
 ·exact run_unL (t:=λ p=>[p.1,p.2.1,p.2.2.1,p.2.2.2]) h (λ _ _=>quadL_is) (λ _=>rfl) λ _=>rfl
 ·exact h.elim
section
variable{prog:Program}{w:World}{A:Around}{E:Value→Shared→Prop}{s:Shared}
theorem unpack_items{t:Addr}{items:Array Value}{Q:List Value→Shared→Prop}(HO:HeldOk A s.heap)(ht:s.heap.IsTuple t items)
  (hQ:∀ h',(∀ b o,s.heap.get? b=some o→h'.get? b=some o)→Q items.toList {s with heap:=h'}):wpAny (model prog w) A (unpackItems (.ref t) items.size none) Q E s:=by
 have hlt:t≠s.heap.objs.size:=by obtain⟨o,ho,_⟩:=ht;exact Nat.ne_of_lt (Heap.lt_size ho)
 have hni:∀ e,A.handled=some (.ref e)→e≠s.heap.objs.size:=λ e he=>by
  rcases HO with h | ⟨e',o,vs,h1,h2,_⟩
  ·rw [h] at he;exact no_some he
  ·rw [h1] at he;cases he
   exact Nat.ne_of_lt (Heap.lt_size h2)
 refine wpAny_bind ?_
 refine wpAny_bind (wpAny_specialOf ht.typeIs F.slot_tuple_iter.lookup ?_)
 refine wpAny_pure ?_
 dsimp only [Bool.false_eq_true,if_false]
 refine wpAny_bind (wpAny_holding (wpAny_pyIter_tuple ht ?_))
 refine wpAny_bind (wpAny_holding (wpAny_draw_tuple hlt items.size 0 _ _ ⟨_,Heap.get?_push_size _ rfl,rfl,rfl⟩ (ht.push _) (by lia) λ h₁ hit₁ hs₁=>?_))
 have hall:List.take items.size (List.drop 0 items.toList)=items.toList:=by
  rw [List.drop_zero];exact List.take_of_length_le (by simp)
 rw [hall]
 rw [if_neg (by simp)]
 have ht₁:h₁.IsTuple t items:=(ht.push _).extBut hs₁.extBut hlt
 have HO1:HeldOk A h₁:=(HO.keeps λ b o e=>Heap.get?_push_of_some _ e).but hni hs₁.extBut
 refine wpAny_bind (wpAny_holding (next_tuple_end (s:={s with heap:=h₁}) HO1 hni hit₁ ht₁ (by simp) λ h₂ he₂=>?_))
 dsimp only [Option.isSome_none,Bool.false_eq_true,if_false]
 refine wpAny_pure (hQ h₂ λ b o e=>?_)
 have hb:b≠s.heap.objs.size:=Nat.ne_of_lt (Heap.lt_size e)
 exact he₂ b o hb (hs₁.extBut b o hb (Heap.get?_push_of_some _ e))
end
section
variable{g:G0}{call:CallT}{hd:Bool}{k n:Nat}{c:Cx}{sc:Scope}{ρ:Lo}{m:PySem.Str→Option Value}{φ φ₀ φ':Ph}{nw nw₀ nw':Nw}{H H':Hp}{s s₀ s':Shared}{X:Addr→Hp→Prop}{P:Fl→Hp→Prop}{K:Lo→M Fl}
theorem sub_alt(i:Expr):∀(o:Expr) (pos:Pos) (env:Env) (v:Value),cond (Nat.beq i.ctorIdx 26) True (assign (.Subscript o i pos) env v=(do
  let ov ←holding [v] (eval o env)
  let iv ←holding [v,ov] (eval i env)
  standAt pos
  holding [v,ov,iv] (setItem ov iv v)
  release [v,ov,iv] [])):=by
 cases i<;>first | exact λ _ _ _ _=>True.intro | exact λ _ _ _ _=>rfl
theorem arm_sub{o i:Expr}{pos:Pos}{env:Env}{v:Value}(hi:(!notSlice i)=false):assign (.Subscript o i pos) env v=(do
  let ov ←holding [v] (eval o env)
  let iv ←holding [v,ov] (eval i env)
  standAt pos
  holding [v,ov,iv] (setItem ov iv v)
  release [v,ov,iv] []):=by
 have q:=sub_alt i o pos env v
 rw [show Nat.beq i.ctorIdx 26=false from nbT (nbF hi)] at q
 exact q
inductive AQ(g:G0)(c:Cx)(sc:Scope)(φ₀:Ph)(nw₀:Nw)(s₀:Shared)(φ:Ph)(nw:Nw)(K:Lo→M Fl)(P:Fl→Hp→Prop)(X:Addr→Hp→Prop)(s':Shared):Prop
 | mk (ρ':Lo) (φ':Ph) (nw':Nw) (H':Hp) (m':PySem.Str→Option Value) (J:SI g c sc φ₀ nw₀ s₀ ρ' φ' nw' H' m' s') (x:ExtV φ nw φ' nw') (h:Run (K ρ' H') P X)
theorem AQ.ap(h:AQ g c sc φ₀ nw₀ s₀ φ nw K P X s):AP g c sc φ₀ nw₀ s₀ K P X s:=let ⟨a,b,d,e,f,J,_,r⟩:=h;⟨a,b,d,e,f,J,r⟩
theorem assign_len1(t:Expr):∀(r:List Expr) (env:Env),(assignEach (t::r) env).length=(assignEach r env).length+1:=by
 cases t<;>exact λ r env=>(rfl:(assignEach r env).length+1=(assignEach r env).length+1)
theorem assign_alt(t:Expr):∀(r:List Expr) (env:Env),cond (Nat.beq t.ctorIdx 22) True (assignEach (t::r) env=(false,assign t env)::assignEach r env):=by
 cases t<;>first | exact λ _ _=>True.intro | exact λ _ _=>rfl
theorem assign_length(env:Env)(ts:List Expr):(assignEach ts env).length=ts.length:=by
 induction ts with
 | nil=>rfl
 | cons t r ih=>exact(assign_len1 t r env).trans (congrArg Nat.succ ih)
theorem assign_cons{env:Env}{t:Expr}{r:List Expr}(h:(t::r).any isStar=false):assignEach (t::r) env=(false,assign t env)::assignEach r env:=by
 have q:=assign_alt t r env
 rw [show Nat.beq t.ctorIdx 22=false from(Bool.or_eq_false_iff.mp h).1] at q
 exact q
theorem assign_nostar(env:Env){ts:List Expr}:ts.any isStar=false→(assignEach ts env).findIdx? (·.1)=none:=by
 induction ts with
 | nil=>exact λ _=>rfl
 | cons t r ih=>
  intro h
  rw [assign_cons h]
  rw [List.any_cons,Bool.or_eq_false_iff] at h
  rw [List.findIdx?_cons,ih h.2]
  rfl
theorem tup_vrs(fx:Fx g c)(S:St g c m φ nw H s){vs:List V}{u:Value}(h:VR g.K φ nw (.tup vs) u):TU g.K φ nw s.heap vs u:=tup_is fx S h
theorem name_lc{names:List (PySem.Str × NameKind)}{x:PySem.Str}{kd:NameKind}(hk:names.lookup x=some kd)(hq:(kd == .local||kd == .cell)=true):names.lookup x=some .local∨names.lookup x=some .cell:=
 ((Bool.or_eq_true _ _).mp hq).imp (λ q=>hk.trans (congrArg some (eq_of_beq (a:=kd) (b:=.local) q))) λ q=>hk.trans (congrArg some (eq_of_beq (a:=kd) (b:=.cell) q))
structure AsgOk(hd:Bool)(g:G0)(call:CallT)(k n:Nat):Prop where
 one:∀{c:Cx}{sc:Scope}{φ₀:Ph}{nw₀:Nw}{s₀:Shared}{ρ:Lo}{φ:Ph}{nw:Nw}{H:Hp}{m:PySem.Str→Option Value}{s:Shared}{t:Expr}{v:V}{u:Value}{K:Lo→M Fl}{P:Fl→Hp→Prop}{X:Addr→Hp→Prop},
  Fx g c→BudX hd c X k→SI g c sc φ₀ nw₀ s₀ ρ φ nw H m s→VR g.K φ nw v u→Run (asg g.K call n sc t v ρ K H) P X→
  wpAny (model g.prog g.w) c.A (assign t c.env₀ u) (λ _ s'=>AQ g c sc φ₀ nw₀ s₀ φ nw K P X s') (SX g c φ₀ nw₀ s₀ X) s
 all:∀{c:Cx}{sc:Scope}{φ₀:Ph}{nw₀:Nw}{s₀:Shared}{ρ:Lo}{φ:Ph}{nw:Nw}{H:Hp}{m:PySem.Str→Option Value}{s:Shared}{ts:List Expr}{vs:List V}{us:List Value}{K:Lo→M Fl}{P:Fl→Hp→Prop}{X:Addr→Hp→Prop},
  Fx g c→BudX hd c X k→SI g c sc φ₀ nw₀ s₀ ρ φ nw H m s→ts.any isStar=false→VRs g.K φ nw vs us→Run (asgs g.K call n sc ts vs ρ K H) P X→
  wpAny (model g.prog g.w) c.A (assignInOrder ((assignEach ts c.env₀).map (·.2)) us) (λ _ s'=>AQ g c sc φ₀ nw₀ s₀ φ nw K P X s') (SX g c φ₀ nw₀ s₀ X) s
theorem asg_succ(Y:Sound hd g call k n)(Z:AsgOk hd g call k n):AsgOk hd g call k (n+1) where
 one:=by
  intro c sc φ₀ nw₀ s₀ ρ φ nw H m s t v u K P X fx bf J hv
  cases t with
  | Name x pos=>
   intro h
   refine wpAny_assign_Name ?_
   refine byC λ nG=>?_
   obtain⟨kd,hk,h1⟩:=onSome_is (o:=sc.names.lookup x) h
   obtain⟨hq,h2⟩:=rIf h1
   exact nG (J.name fx (name_lc hk hq) hv λ nw' m' s' J' v' _=>⟨_,_,_,_,_,J',v',h2⟩)
  | Attribute o x pos=>
   intro h
   have h':Run (evE g.K call n sc ρ o H) (λ ov H=>Run (M.bind (setA g.K ov x v) (λ _=>K ρ) H) P X) X:=h
   show wpAny _ _ (do
    let ov ←holding [u] (eval o c.env₀)
    standAt pos.atName
    holding [u,ov] (setAttr ov x u)
    release [u,ov] []) _ _ s
   refine wpAny_bind (wpAny_holding (J.bind (Y.E fx bf J.S J.O h') λ φ1 nw1 H1 ov u1 s1 J1 x1 hov h1=>?_))
   refine wpAny_bind (wpAny_standAt (wpAny_bind (wpAny_holding (wpAny_mono (setA_sound (E:=SX g c φ₀ nw₀ s₀ X) fx J1.S hov (VR.mono x1.s _ _ hv) h1) (λ _ s2 hq=>?_) λ _ _ z=>z))))
   refine byC λ nG=>?_
   obtain⟨φ2,nw2,H2,S2,x2,h2,u2⟩:=hq
   refine nG ?_
   exact wpAny_release' ⟨ρ,φ2,nw2,H2,m,J1.step S2 x2 u2,(x1.trans x2).s.v,h2⟩
  | Subscript o i pos=>
   intro h
   obtain⟨hi,h'⟩:=rNoB h
   replace h':Run (evE g.K call n sc ρ o H) (λ ov H=>Run (evE g.K call n sc ρ i H) (λ iv H=>Run (M.bind (setI ov iv v) (λ _=>K ρ) H) P X) X) X:=h'
   rw [arm_sub hi]
   refine wpAny_bind (wpAny_holding (J.bind (Y.E fx bf J.S J.O h') λ φ1 nw1 H1 ov u1 s1 J1 x1 hov h1=>?_))
   refine wpAny_bind (wpAny_holding (J1.bind (Y.E fx bf J1.S J1.O h1) λ φ2 nw2 H2 iv u2 s2 J2 x2 hiv h2=>?_))
   refine wpAny_bind (wpAny_standAt (wpAny_bind (wpAny_holding (wpAny_mono (setI_sound (E:=SX g c φ₀ nw₀ s₀ X) J2.S (VR.mono x2.s _ _ hov) hiv (VR.mono (x1.trans x2).s _ _ hv) h2) (λ _ s3 hq=>?_) λ _ _ z=>z))))
   refine byC λ nG=>?_
   obtain⟨φ3,nw3,H3,S3,x3,h3,u3⟩:=hq
   refine nG ?_
   exact wpAny_release' ⟨ρ,φ3,nw3,H3,m,J2.step S3 x3 u3,((x1.trans x2).trans x3).s.v,h3⟩
  | Tuple ts kk pos=>
   intro h
   refine byC λ nG=>?_
   obtain⟨hs,h1⟩:=rNoB h
   obtain⟨vs,rfl,hlen,h2⟩:=run_un h1
   obtain⟨hs,_⟩:=Bool.or_eq_false_iff.mp hs
   obtain⟨a,xs,rfl,ht,hx⟩:=tup_vrs fx J.S hv
   refine nG ?_
   refine wpAny_bind (wpAny_standAt ?_)
   unfold unpack
   have hn:(assignEach ts c.env₀).length=xs.toArray.size:=by simp only [assign_length,hlen,List.size_toArray,hx.length]
   rw [hn,assign_nostar c.env₀ hs]
   refine wpAny_bind (wpAny_holding (unpack_items (heldOk J.S) ht λ h1 hk=>?_))
   exact Z.all fx bf (J.step (J.S.more (tk:=s.toks) (J.S.F.keeps hk) (J.S.N.grown hk) λ _ h=>h) (.refl _ _) ⟨h1,s.toks,rfl⟩) hs hx h2
  | _=>exact False.elim
 all:=by
  intro c sc φ₀ nw₀ s₀ ρ φ nw H m s ts vs us K P X fx bf J hs hv h
  rcases ts with _ | ⟨t,ts⟩<;>rcases vs with _ | ⟨v,vs⟩
  ·cases (hv:us=[])
   exact wpAny_pure ⟨ρ,φ,nw,H,m,J,(Ext.refl _ _).s.v,h⟩
  ·exact h.elim
  ·exact h.elim
  ·have h':Run (asg g.K call n sc t v ρ (λ ρ'=>asgs g.K call n sc ts vs ρ' K) H) P X:=h
   refine byC λ nG=>?_
   obtain⟨u,r,rfl,hv1,hv2⟩:=L2.inv hv
   refine nG ?_
   rw [assign_cons hs]
   refine wpAny_bind (wpAny_holding (wpAny_mono (Z.one fx bf J hv1 h') (λ _ s1 hq=>?_) λ _ _ z=>z))
   obtain⟨ρ1,φ1,nw1,H1,m1,J1,v1,h1⟩:=hq
   rw [List.any_cons,Bool.or_eq_false_iff] at hs
   refine wpAny_mono (Z.all fx bf J1 hs.2 (VRs.monoV v1 _ _ hv2) h1) (λ _ s2 hq=>?_) λ _ _ z=>z
   obtain⟨ρ2,φ2,nw2,H2,m2,J2,v2,h2⟩:=hq
   exact⟨ρ2,φ2,nw2,H2,m2,J2,v1.trans v2,h2⟩
theorem asg_all(hc:CallOk hd g call k):∀ n,AsgOk hd g call k n
 | 0=>⟨λ _ _ _ _ h=>h.elim,λ _ _ _ _ _ h=>h.elim⟩
 | n+1=>asg_succ (sound_all hc n) (asg_all hc n)
end
end VS.Internal
end
section
open PySem PySem.W PySem.Calls PyProof.Rows PySem.SeqAt
set_option backward.match.sparseCases false
set_option maxRecDepth 100000
namespace VS.Internal
theorem swaps_alt(value:Expr):cond (isComp value) True (∀ t l env,swapsWith value t l env=pure false):=by
 cases value<;>first | exact True.intro | exact λ _ _ _=>(rfl:(pure false:Sem Bool)=pure false)
theorem swl_alt(t:Expr):cond (Nat.beq t.ctorIdx 23) True (∀ elt gens sc' p l env,swapsWith (.ListComp elt gens sc' p) (some t) l env=pure false):=by
 cases t<;>first | exact True.intro | exact λ _ _ _ _ _ _=>(rfl:(pure false:Sem Bool)=pure false)
theorem swaps_not{value:Expr}{t:Option Expr}{l:Nat}{env:Env}(h:isComp value=false):swapsWith value t l env=pure false:=by
 have q:=swaps_alt value
 rw [h] at q
 exact q t l env
theorem swaps_list{elt:Expr}{gens:List Comprehension}{sc':Scope}{p:Pos}{t:Expr}{l:Nat}{env:Env} :
  swapsWith (.ListComp elt gens sc' p) (some t) l env=pure false∨(swapsWith (.ListComp elt gens sc' p) (some t) l env=pure true∧∃ x px,t = .Name x px∧env.kindOf x=some .local):=by
 have q:=swl_alt t
 cases e:Nat.beq t.ctorIdx 23 with
 | false=>rw [e] at q;exact .inl (q elt gens sc' p l env)
 | true=>
 clear q
 refine PySem.Expr.Name.elim t (Nat.eq_of_beq_eq_true e) λ x px=>?_
 have e:swapsWith (.ListComp elt gens sc' p) (some (.Name x px)) l env=pure (env.blockKind == .function&&env.kindOf x==some .local&&px.line==(Expr.ListComp elt gens sc' p).pos.line && !(sc'.names.any λ(n,k)=>n==x&&(k == .local||k == .cell))):=rfl
 rw [e]
 refine bC (env.blockKind == .function&&env.kindOf x==some .local&&px.line==(Expr.ListComp elt gens sc' p).pos.line && !(sc'.names.any λ(n,k)=>n==x&&(k == .local||k == .cell))) (λ hb=>?_) λ hb=>.inl (congrArg pure hb)
 simp only [Bool.and_eq_true,beq_iff_eq] at hb
 exact .inr ⟨congrArg pure (by simp only [Bool.and_eq_true,beq_iff_eq];exact hb),x,px,rfl,hb.1.1.2⟩
section
variable{g:G0}{call:CallT}{hd:Bool}{k n:Nat}{c:Cx}{sc:Scope}{ρ:Lo}{m:PySem.Str→Option Value}{φ φ₀ φ':Ph}{nw nw₀ nw':Nw}{H H':Hp}{s s₀ s':Shared}{X:Addr→Hp→Prop}{P:Fl→Hp→Prop}{K:Lo→M Fl}
theorem SI.off'(J:SI g c sc φ₀ nw₀ s₀ ρ φ nw H m s){C:Addr}{oC:Obj}{mC:PySem.Str→Option Value}(hC:(C,oC)∈nw)(hN:ObjNs oC mC)(hm:C∉mutA φ)(h0:∀ p∈nw₀,p.1≠C){h':Heap}{tk:Nat}(hs:Heap.SameBut C s.heap h') :
  SI g c sc φ₀ nw₀ s₀ ρ φ (ndrop nw C) H m {s with heap:=h',toks:=tk}:=by
 refine byC λ nG=>?_
 obtain⟨S',v',x'⟩:=st_off J.S J.f0 J.o0 J.x h0 hC (ns_noVal hN) hm
 refine nG ?_
 have D:=J.S.N _ hC
 have hcell:∀ cc o v,(cc,o)∈nw→o.data = .cell v→cc≠C:=λ cc o v h hd q=>by
  cases q
  have:=same_obj J.S h hC
  obtain⟨es,ep,h2,_⟩:=hN
  rw [this,h2] at hd;cases hd
 refine{S:=st_same S' D.2.2 D.2.1 (λ p hp=>(of_ndrop hp).2) hs,O:={J.O with loc:=?_,cel:=λ y w hy e=>?_},x:=x',u:=J.u.trans ⟨_,_,rfl⟩,f0:=J.f0,o0:=J.o0,lo:=J.lo,off:=J.off,inj:=J.inj,has:=J.has,kc:=J.kc,alive:=λ y cc hy=>?_}
 ·rcases J.O.loc with ⟨q0,q⟩ | ⟨o,m₂,q1,_⟩
  ·exact .inl ⟨q0,λ y w hy e=>let ⟨u,e1,e2⟩:=q y w hy e;⟨u,e1,VR.monoV v' _ _ e2⟩⟩
  ·rw [J.lo] at q1
   exact absurd rfl (J.S.N _ q1).2.1
 ·obtain⟨cc,o,u,e1,e2,e3,e4,e5⟩:=J.O.cel y w hy e
  exact⟨cc,o,u,e1,mem_ndrop e2 (hcell cc o _ e2 e4),e3,e4,VR.monoV v' _ _ e5⟩
 ·obtain⟨o,v,e1,e2,e3⟩:=J.alive y cc hy
  exact⟨o,v,mem_ndrop e1 (hcell cc o _ e1 e3),e2,e3⟩
theorem ext_addr(S:St g c m φ nw H s)(x:Ext φ₀ nw₀ φ nw):∀ p∈nw₀,∃ q∈nw,q.1=p.1:=λ p hp=>by
 by_cases hm:p.1∈mutA φ₀
 ·have:p.1∈mutA φ:=by
   obtain⟨t,ht⟩:=x.pre
   unfold mutA at hm ⊢
   rw [←ht,List.map_append]
   exact List.mem_append_left _ hm
  obtain⟨o,ho⟩:=S.C.owned this
  exact⟨_,ho,rfl⟩
 ·obtain⟨⟨sl,h1⟩,_⟩:=x.dc p hp hm
  exact⟨_,h1,rfl⟩
theorem then_use{elt:Expr}{gens:List Comprehension}{scope:Scope}{pos:Pos}{env:Env}{use:Value→Sem Unit}:evalThenUse (.ListComp elt gens scope pos) env use =
  (do let _ ←comprehension (.ListComp elt gens scope pos) scope env (firstIterPos gens pos) (newList []) (firstAsync gens) (firstIter gens env) (some use)):=rfl
theorem assign_use{elt:Expr}{gens:List Comprehension}{sc':Scope}{p pos px:Pos}{x:PySem.Str}{X1:Addr→Hp→Prop}{E:Value→Shared→Prop}(Y:Sound hd g call k n)(fx:Fx g c)(bf:BudX hd c X1 k)(J:SI g c sc φ₀ nw₀ s₀ ρ φ nw H m s)(hE:∀ u s',PostX g c m φ nw X1 s u s'→E u s')
  (hkind:c.env₀.kindOf x=some .local) (h:Run (evE g.K call (n+1) sc ρ (.ListComp elt gens sc' p) H) (λ v h=>Run (asg g.K call (n+1) sc (.Name x px) v ρ K h) P X) X1) :
  wpAny (model g.prog g.w) c.A (evalThenUse (.ListComp elt gens sc' p) c.env₀ λ v=>assignAll v ((assignEach [.Name x px] c.env₀).map (·.2))) (λ _ s'=>AP g c sc φ₀ nw₀ s₀ K P X s') E s:=by
 refine byC λ nG=>?_
 obtain⟨y,py,iter,ifs,rfl,OK,h0⟩:=Comp_run h
 obtain⟨cl,hclos,hcl⟩:=comp_cells J.O OK
 refine nG ?_
 dsimp only [then_use,show firstAsync [⟨Expr.Name y py,iter,ifs,0⟩]=false from rfl]
 refine wpAny_bind ?_
 refine wpAny_mono (Q:=λ _ s'=>AP g c sc φ₀ nw₀ s₀ K P X s') (E:=E) ?_ (λ _ s' q=>wpAny_pure q) λ _ _ z=>z
 have hst:∀ v,foldedSetIterable (Comprehension.mk (.Name y py) iter ifs 0).iter c.env₀ v=pure v:=OK.st c.env₀
 have hnm:∀ z∈sc'.names,z.2 = .local→sc'.names.lookup z.1=some .local:=λ y hy hk=>(OK.loc y hy hk).1
 refine wpAny_comprehension_free (gs:=[]) rfl hst hclos OK.kind hnm ?_
 have key:=comp_core (px:=py) (pos:=p) (RR:=λ acc C=>compPost (model g.prog g.w) c.A E (some λ v=>assignAll v ((assignEach [.Name x px] c.env₀).map (·.2))) (λ _ s'=>AP g c sc φ₀ nw₀ s₀ K P X s') acc C) Y fx bf J.S J.O OK hcl h0 (by
  intro D C φ' nw' H' s' mC v S' x' u' hv hP hb hL hC hCm hn
  obtain⟨oC,hoC,hNC⟩:=ns_obj hn
  have N2:News c.b₀ c.L s'.heap ((C,oC)::nw'):=λ q hq=>by
   rcases List.mem_cons.mp hq with rfl | hq
   ·exact⟨hoC,hL,hb⟩
   ·exact S'.N q hq
  have S2:St g c m φ' ((C,oC)::nw') H' s':=S'.more (tk:=s'.toks) (h':=s'.heap) S'.F N2 λ _ h=>.tail _ h
  have J2:=J.step S2 (x'.trans (ext_sub λ _ h=>.tail _ h)) u'
  refine byC λ nG=>?_
  obtain⟨kd,hkd,hP1⟩:=onSome_is (o:=sc.names.lookup x) hP
  obtain⟨hq,hP'⟩:=rIf hP1
  refine nG ?_
  have hk:sc.names.lookup x=some .local:=(name_lc hkd hq).resolve_right λ e=>nomatch (J.kc x e).symm.trans hkind
  have hoff:∀ p∈nw₀,p.1≠C:=λ p hp q=>by
   obtain⟨r,hr,e⟩:=ext_addr S' (J.x.trans x') p hp
   exact hC r hr (e.trans q)
  refine wpAny_assign_Name (J2.name fx (.inl hk) (VR.mono (ext_sub (nw:=nw') λ _ h=>.tail _ h).s _ _ hv) λ nw3 m3 s3 J3 v3 k3=>?_)
  have hC3:(C,oC)∈nw3:=k3 _ (.head _) λ cc hcc q=>by
   obtain⟨o,v0,h1,_,h3⟩:=J2.alive x cc hcc
   have q':cc=C:=Eq.symm q
   subst q'
   have e1:o=oC:=same_obj S2 (a:=cc) h1 (.head _)
   obtain⟨es,ep,h2,_⟩:=hNC
   rw [e1,h2] at h3;cases h3
  exact⟨mC,obj_ns (J3.S.N _ hC3).1 hNC,λ h' hs'=>⟨_,_,_,_,_,J3.off' (tk:=s3.toks) hC3 hNC hCm hoff hs',hP'⟩⟩)
 refine wpAny_mono (s:=s) key (λ xv s1 h1=>?_) λ _ _ z=>hE _ _ z
 ·refine wpAny_mono h1 (λ it s2 h2=>?_) λ _ _ z=>hE _ _ z
  refine wpAny_mono h2 (λ acc s3 h3=>?_) λ _ _ z=>hE _ _ z
  exact wpAny_mono h3 (λ cenv s4 h4=>h4) λ _ _ z=>hE _ _ z
end
end VS.Internal
end
section
open PySem PySem.W PySem.Calls PyProof.Rows PySem.SeqAt
set_option backward.match.sparseCases false
set_option maxRecDepth 100000
namespace VS.Internal
noncomputable def putAll(l:List (PySem.Str × V))(ρ:Lo):Lo:=List.rec (motive:=λ _=>Lo→Lo) id (λ p _ i ρ=>i (put p.1 p.2 ρ)) l ρ
theorem not_mem_lookup{α:Type}{y:PySem.Str}{r:List (PySem.Str × α)}(h:y∉r.map (·.1)):r.lookup y=none:=
 oC (r.lookup y) id λ w e=>absurd (List.mem_map_of_mem (f:=(·.1)) (mem_of_lookup e)) h
theorem lk_putAll{y:PySem.Str}{l:List (PySem.Str × V)}:∀{ρ:Lo},(l.map (·.1)).Nodup→lk y (putAll l ρ)=(l.lookup y).or (lk y ρ):=by
 induction l with
 | nil=>exact λ _=>rfl
 | cons p r ih=>
  intro ρ nd
  obtain⟨n,v⟩:=p
  rw [List.map_cons,List.nodup_cons] at nd
  refine(ih (ρ:=put n v ρ) nd.2).trans ?_
  rw [List.lookup_cons]
  refine bC (y==n) (λ hq=>?_) λ hq=>?_
  ·rw [hq,eq_of_beq hq,not_mem_lookup nd.1,lk_put_self];rfl
  ·rw [hq,lk_put_ne _ λ q=>absurd (beq_iff_eq.mpr q) (ne_true_of_eq_false hq)]
theorem lookup_reverse{α:Type}{y:PySem.Str}{l:List (PySem.Str × α)}:(l.map (·.1)).Nodup→l.reverse.lookup y=l.lookup y:=by
 induction l with
 | nil=>exact λ _=>rfl
 | cons p r ih=>
  intro nd
  obtain⟨n,v⟩:=p
  rw [List.map_cons,List.nodup_cons] at nd
  rw [List.reverse_cons,List.lookup_append,ih nd.2,List.lookup_cons,List.lookup_cons]
  refine bC (y==n) (λ hq=>?_) λ hq=>?_
  ·rw [hq,not_mem_lookup (eq_of_beq hq▸nd.1)];rfl
  ·rw [hq];cases r.lookup y<;>rfl
theorem zip_rev{α β:Type}{a:List α}:∀{b:List β},a.length=b.length→a.reverse.zip b.reverse=(a.zip b).reverse:=by
 induction a with
 | nil=>exact λ _=>rfl
 | cons x a ih=>
  intro b h
  cases b with
  | nil=>cases h
  | cons y b=>
   rw [List.reverse_cons,List.reverse_cons,List.zip_append (by simpa using Nat.succ.inj h),ih (Nat.succ.inj h)]
   exact(List.reverse_cons ..).symm
inductive Names(env:Env):List Expr→List PySem.Str→Prop
 | nil:Names env [] []
 | cons {n p ts ns}:env.kindOf n=some .local→Names env ts ns→Names env (.Name n p::ts) (n::ns)
theorem names_all{f:Expr→Option PySem.Str}{R:Expr→PySem.Str→Prop}(hf:∀ t n,f t=some n→R t n){ts:List Expr}:(ts.filterMap f).length=ts.length→L2 R ts (ts.filterMap f):=by
 induction ts with
 | nil=>exact λ _=>rfl
 | cons t ts ih=>
  intro h
  have hle:=List.length_filterMap_le f ts
  rw [List.filterMap_cons] at h ⊢
  refine oC (f t) (λ e=>?_) λ n e=>?_<;>rw [e] at h ⊢
  ·exact absurd h (Nat.ne_of_lt (Nat.lt_succ_of_le hle))
  ·exact L2.cons (hf t n e) (ih (Nat.succ.inj h))
set_option backward.match.sparseCases true in
theorem name_alt(t:Expr):∀(env:Env) (line:Nat),cond (Nat.beq t.ctorIdx 23) True ((match t with | .Name id pos=>if(env.kindOf id==some .local&&pos.line==line)=true then some id else none | _=>none)=none):=by
 cases t<;>first | exact λ _ _=>True.intro | exact λ _ _=>rfl
set_option backward.match.sparseCases true in
theorem name_one{env:Env}{line:Nat}(t:Expr)(n:PySem.Str)(h:(match t with | .Name id pos=>if(env.kindOf id==some .local&&pos.line==line)=true then some id else none | _=>none)=some n):∃ p,t = .Name n p∧env.kindOf n=some .local:=by
 have q:=name_alt t env line
 refine bC (Nat.beq t.ctorIdx 23) (λ e=>?_) λ e=>?_
 ·revert h
  refine PySem.Expr.Name.elim t (Nat.eq_of_beq_eq_true e) λ x p h=>?_
  have h:=iteO h
  exact⟨p,congrArg (Expr.Name · p) (Option.some.inj h.2),Option.some.inj h.2▸eq_of_beq ((Bool.and_eq_true _ _).mp h.1).1⟩
 ·rw [e] at q
  exact no_some (q.symm.trans h)
set_option backward.match.sparseCases true in
theorem names_of{env:Env}{line:Nat}{ts:List Expr}(h:(ts.filterMap λ t=>match t with | .Name id pos=>if(env.kindOf id==some .local&&pos.line==line)=true then some id else none | _=>none).length=ts.length) :
  Names env ts (ts.filterMap λ t=>match t with | .Name id pos=>if(env.kindOf id==some .local&&pos.line==line)=true then some id else none | _=>none):=by
 have q:=names_all (name_one (env:=env) (line:=line)) h
 revert q
 clear h
 generalize List.filterMap _ ts=ns
 intro q
 induction ts generalizing ns with
 | nil=>cases (q:ns=[]);exact .nil
 | cons t ts ih=>
  cases L2.inv q with | mk n r e h1 h2=>
  rw [e]
  exact h1.elim λ p z=>z.1▸.cons z.2 (ih r h2)
theorem Names.part{env:Env}{ts:List Expr}{ns:List PySem.Str}(h:Names env ts ns):ts.filterMap namePart=ns:=by
 induction h with
 | nil=>rfl
 | cons _ _ ih=>dsimp only [List.filterMap_cons];show _::_=_;rw [ih]
theorem ifS{p:Prop}{_:Decidable p}{m:Sem (Option (List PySem.Str))}{env:Env}{ts:List Expr}(h:¬ p→m=pure none∨∃ ns,m=pure (some ns)∧Names env ts ns) :
  (if p then pure none else m)=pure none∨∃ ns,(if p then pure none else m)=pure (some ns)∧Names env ts ns:=by
 by_cases q:p
 ·exact .inl (if_pos q)
 ·rw [if_neg q];exact h q
theorem swap_tuple{ts vs:List Expr}{k k':Nat}{tp vp:Pos}{env:Env}(ho:okSwap (.Tuple vs k' vp)=true) :
  swappedStores [.Tuple ts k tp] (.Tuple vs k' vp) env=pure none∨∃ ns,swappedStores [.Tuple ts k tp] (.Tuple vs k' vp) env=pure (some ns)∧Names env ts ns:=by
 unfold swappedStores
 dsimp only
 refine ifS λ _=>ifS λ _=>ifS λ h3=>ifS λ h4=>?_
 by_cases h5:vs.all (constantsAlone 8)=true
 ·rcases(Bool.or_eq_true _ _).mp (show(!(vs.all (constantsAlone 8))||vs.all (foldedForSure 8))=true from ho) with q | q
  ·rw [h5] at q;exact nomatch q
  ·exact absurd q h4
 ·rw [if_neg h5]
  refine .inr ⟨_,rfl,names_of ?_⟩
  rw [Bool.or_eq_true,bne_iff_ne,ne_eq,not_or,Decidable.not_not] at h3
  exact h3.1
section
variable{g:G0}{call:CallT}{hd:Bool}{k n:Nat}{c:Cx}{sc:Scope}{ρ:Lo}{m:PySem.Str→Option Value}{φ φ₀ φ':Ph}{nw nw₀ nw':Nw}{H H':Hp}{s s₀ s':Shared}{X:Addr→Hp→Prop}{P:Fl→Hp→Prop}{K:Lo→M Fl}
theorem EnvOk.lkeq{env:Env}{ρ ρ':Lo}(O:EnvOk g c env sc ρ m φ nw)(h:∀ y,lk y ρ'=lk y ρ):EnvOk g c env sc ρ' m φ nw:=
 {O with
  loc:=by
   rcases O.loc with ⟨q0,q⟩ | ⟨o,m₂,q1,q2,q3,q4⟩
   ·exact .inl ⟨q0,λ y w hy e=>q y w hy (h y▸e)⟩
   ·exact .inr ⟨o,m₂,q1,q2,q3,λ y w hy e=>q4 y w hy (h y▸e)⟩
  cel:=λ y w hy e=>O.cel y w hy (h y▸e)}
theorem SI.lkeq{ρ ρ':Lo}(J:SI g c sc φ₀ nw₀ s₀ ρ φ nw H m s)(h:∀ y,lk y ρ'=lk y ρ):SI g c sc φ₀ nw₀ s₀ ρ' φ nw H m s:={J with O:=J.O.lkeq h}
inductive AN(sc:Scope)(ns:List PySem.Str)(vs:List V)(ρ:Lo)(H:Hp)(K:Lo→M Fl)(P:Fl→Hp→Prop)(X:Addr→Hp→Prop):Prop
 | mk (l:∀ x∈ns,sc.names.lookup x=some .local) (e:ns.length=vs.length) (h:Run (K (putAll (ns.zip vs) ρ) H) P X)
theorem asgs_names{ts:List Expr}{ns:List PySem.Str}(N:Names c.env₀ ts ns)(hkc:∀ x,sc.names.lookup x=some .cell→c.env₀.kindOf x=some .cell):∀{n:Nat}{vs:List V}{ρ:Lo}{H:Hp},
  Run (asgs g.K call n sc ts vs ρ K H) P X→AN sc ns vs ρ H K P X:=by
 induction N with
 | nil=>
  intro n vs ρ H h
  cases n with
  | zero=>exact h.elim
  | succ n=>
   cases vs with
   | nil=>exact⟨(λ _ hx=>nomatch hx),rfl,h⟩
   | cons _ _=>exact h.elim
 | cons hk N ih=>
  rename_i x p ts ns
  intro n vs ρ H h
  cases n with
  | zero=>exact h.elim
  | succ n=>
   cases vs with
   | nil=>exact h.elim
   | cons v vs=>
    cases n with
    | zero=>exact h.elim
    | succ n=>
     refine byC λ nG=>?_
     obtain⟨kd,hkd,h2⟩:=onSome_is (o:=sc.names.lookup x) h
     obtain⟨hq,h3⟩:=rIf h2
     obtain⟨h4,h5,h6⟩:=ih h3
     exact nG ⟨λ y hy=>(List.mem_cons.mp hy).elim (λ z=>z▸(name_lc hkd hq).resolve_right λ e=>nomatch (hkc x e).symm.trans hk) (h4 y),congrArg Nat.succ h5,h6⟩
theorem store_all(fx:Fx g c){A:Around}{E:Value→Shared→Prop}{T:Unit→Shared→Prop}:∀{ns:List PySem.Str}{vs:List V}{us:List Value}{ρ:Lo}{φ:Ph}{nw:Nw}{m:PySem.Str→Option Value}{s:Shared},
  SI g c sc φ₀ nw₀ s₀ ρ φ nw H m s→(∀ x∈ns,sc.names.lookup x=some .local)→ns.length=vs.length→VRs g.K φ nw vs us→
  (∀ nw' m' s',SI g c sc φ₀ nw₀ s₀ (putAll (ns.zip vs) ρ) φ nw' H m' s'→T () s')→
  wpAny (model g.prog g.w) A (assignInOrder (ns.map λ n=>bindName c.env₀ n) us) T E s
 :=by
 intro ns
 induction ns with
 | nil=>
  intro vs us ρ φ nw m s J _ hl hv h
  cases vs with
  | cons=>cases hl
  | nil=>
  cases (hv:us=[])
  exact wpAny_pure (h nw m s J)
 | cons x ns ih=>
  intro vs us ρ φ nw m s J hn hl hv h
  cases vs with
  | nil=>cases hl
  | cons v vs=>
  refine byC λ nG=>?_
  obtain⟨u,r,rfl,hv1,hv2⟩:=L2.inv hv
  refine nG ?_
  refine wpAny_bind (wpAny_holding (wpAny_bindName (J.name fx (.inl (hn x (.head _))) hv1 λ nw' m' s' J' v' _=>?_)))
  exact ih J' (λ y hy=>hn y (.tail _ hy)) (Nat.succ.inj hl) (VRs.monoV v' _ _ hv2) h
theorem VRs.reverse{K:Frag}{vs:List V}:∀{us:List Value},VRs K φ nw vs us→VRs K φ nw vs.reverse us.reverse:=by
 induction vs with
 | nil=>intro us h;cases (h:us=[]);exact VRs.nil
 | cons v vs ih=>
  intro us h
  cases L2.inv h with | mk u r e h1 h2=>
  rw [e,List.reverse_cons,List.reverse_cons]
  exact(ih h2).append (VRs.one h1)
theorem tuple_is{e:Expr}(h:Nat.beq e.ctorIdx 25=true):∃ ts k p,e = .Tuple ts k p:=PySem.Expr.Tuple.elim e (Nat.eq_of_beq_eq_true h) λ a b c=>⟨a,b,c,rfl⟩
theorem comp_is{e:Expr}(h:isComp e=true):(∃ elt gens sc' p,e = .ListComp elt gens sc' p)∨(∃ elt gens sc' p,e = .SetComp elt gens sc' p)∨∃ k v gens sc' p,e = .DictComp k v gens sc' p:=by
 rcases(Bool.or_eq_true _ _).mp h with h | h
 ·as_aux_lemma=>
   rcases(Bool.or_eq_true _ _).mp h with h | h
   ·exact .inl (PySem.Expr.ListComp.elim e (Nat.eq_of_beq_eq_true h) λ a b c d=>⟨a,b,c,d,rfl⟩)
   ·exact .inr (.inl (PySem.Expr.SetComp.elim e (Nat.eq_of_beq_eq_true h) λ a b c d=>⟨a,b,c,d,rfl⟩))
 ·exact .inr (.inr (PySem.Expr.DictComp.elim e (Nat.eq_of_beq_eq_true h) λ a b c d f=>⟨a,b,c,d,f,rfl⟩))
theorem sw_alt(t:Expr):cond (Nat.beq t.ctorIdx 25||Nat.beq t.ctorIdx 24) True (∀ value env,swappedStores [t] value env=pure none):=by
 cases t<;>first | exact True.intro | exact λ _ _=>(rfl:(pure none:Sem (Option (List PySem.Str)))=pure none)
theorem sv_alt(v:Expr):cond (Nat.beq v.ctorIdx 25) True (∀ ts kk tp env,swappedStores [.Tuple ts kk tp] v env=pure none):=by
 cases v<;>first | exact True.intro | exact λ _ _ _ _=>(rfl:(pure none:Sem (Option (List PySem.Str)))=pure none)
inductive SW(t value:Expr)(env:Env):Prop
 | none (e:swappedStores [t] value env=pure none)
 | swap (ts:List Expr) (kk:Nat) (tp:Pos) (ns:List PySem.Str) (e1:t = .Tuple ts kk tp) (e:swappedStores [t] value env=pure (some ns)) (N:Names env ts ns)
theorem swapped_is{t value:Expr}{env:Env}(ho:okSwap value=true)(h24:Nat.beq t.ctorIdx 24=false):SW t value env:=by
 have q:=sw_alt t
 rw [h24,Bool.or_false] at q
 refine bC (Nat.beq t.ctorIdx 25) (λ e=>?_) λ e=>by rw [e] at q;exact .none (q value env)
 clear q h24
 obtain⟨ts,kk,tp,rfl⟩:=tuple_is e
 have q:=sv_alt value
 refine bC (Nat.beq value.ctorIdx 25) (λ e=>?_) λ e=>by rw [e] at q;exact .none (q ts kk tp env)
 clear q
 obtain⟨vs,k',vp,rfl⟩:=tuple_is e
 exact(swap_tuple (ts:=ts) (k:=kk) (tp:=tp) (env:=env) ho).elim .none λ h=>h.elim λ ns h=>.swap ts kk tp ns rfl h.1 h.2
theorem asg_kind{t:Expr}{v:V}(h:Run (asg g.K call n sc t v ρ K H) P X):isStar t=false∧Nat.beq t.ctorIdx 24=false:=by
 refine⟨bC (isStar t) (λ e=>?_) id,bC (Nat.beq t.ctorIdx 24) (λ e=>?_) id⟩
 ·obtain⟨_,_,rfl⟩:=star_is e
  cases n<;>exact h.elim
 ·revert h
  exact PySem.Expr.List.elim t (Nat.eq_of_beq_eq_true e) λ _ _ h=>by cases n<;>exact h.elim
inductive SL(t value:Expr)(l:Nat)(env:Env):Prop
 | no (e:swapsWith value (some t) l env=pure false)
 | yes (elt:Expr) (gens:List Comprehension) (sc':Scope) (p:Pos) (x:PySem.Str) (px:Pos) (e1:value = .ListComp elt gens sc' p) (e2:t = .Name x px) (e:swapsWith value (some t) l env=pure true) (k:env.kindOf x=some .local)
theorem swaps_is{t value:Expr}{l:Nat}{env:Env}{P:V→Hp→Prop}(h:Run (evE g.K call n sc ρ value H) P X):SL t value l env:=by
 refine bC (isComp value) (λ hcomp=>?_) λ e=>.no (swaps_not e)
 rcases comp_is hcomp with ⟨elt,gens,sc',p,rfl⟩ | ⟨_,_,_,_,rfl⟩ | ⟨_,_,_,_,_,rfl⟩
 ·exact(swaps_list (elt:=elt) (gens:=gens) (sc':=sc') (p:=p) (t:=t) (l:=l) (env:=env)).elim .no λ h=>h.2.elim λ x k=>k.elim λ px k=>.yes elt gens sc' p x px rfl k.1 h.1 k.2
 ·cases n<;>exact h.elim
 ·cases n<;>exact h.elim
theorem Assign_sound{t value:Expr}{pos:Pos}{X1:Addr→Hp→Prop}{E:Value→Shared→Prop}(hc:CallOk hd g call k)(fx:Fx g c)(bf1:BudX hd c X1 k)(bf:BudX hd c X k)(J:SI g c sc φ₀ nw₀ s₀ ρ φ nw H m s)(ho:okSwap value=true)
  (hE1:∀ u s',PostX g c m φ nw X1 s u s'→E u s') (hE2:∀ u s',SX g c φ₀ nw₀ s₀ X u s'→E u s')
  (h:Run (evE g.K call n sc ρ value H) (λ v h=>Run (asg g.K call n sc t v ρ K h) P X) X1) :
  wpAny (model g.prog g.w) c.A (exec (.Assign [t] value pos) c.env₀) (SPost g c sc φ₀ nw₀ s₀ K P X) E s:=by
 simp only [exec_Assign]
 refine wpAny_bind (wpAny_standAt ?_)
 have hsole:swapsWithSole [t] value pos.line c.env₀ = swapsWith value (some t) pos.line c.env₀:=rfl
 rw [hsole]
 cases swaps_is (t:=t) (l:=pos.line) (env:=c.env₀) h with
 | yes elt gens sc' p x px e1 e2 e hkind=>
  rw [e]
  clear hsole e
  subst e1 e2
  refine wpAny_bind (wpAny_pure ?_)
  rw [if_pos rfl]
  cases n with
  | zero=>exact h.elim
  | succ n=>exact wpAny_bind (wpAny_mono (assign_use (pos:=pos) (sound_all hc n) fx bf1 J hE1 hkind h) (λ _ s' q=>wpAny_pure q) λ _ _ z=>z)
 | no hsw=>
  rw [hsw]
  clear hsole hsw
  refine wpAny_bind (wpAny_pure ?_)
  rw [if_neg Bool.false_ne_true]
  refine wpAny_bind (wpAny_mono ((sound_all hc n).E fx bf1 J.S J.O h) (λ u s1 hq=>?_) hE1)
  refine byC λ no=>?_
  obtain⟨φ1,nw1,H1,v,S1,x1,hv,h1,u1⟩:=hq
  have J1:=J.step S1 x1 u1
  obtain⟨hst,h24⟩:=asg_kind h1
  refine no ?_
  clear no
  cases swapped_is (env:=c.env₀) ho h24 with
  | none e=>
   rw [e]
   refine wpAny_bind (wpAny_pure ?_)
   have e2:assignEach [t] c.env₀ = [(false,assign t c.env₀)]:=assign_cons (r:=[]) (by simp [hst])
   rw [e2]
   show wpAny _ _ (do assign t c.env₀ u;pure Flow.next) _ _ s1
   exact wpAny_bind (wpAny_mono ((asg_all hc n).one fx bf J1 hv h1) (λ _ s' q=>wpAny_pure q.ap) hE2)
  | swap ts kk tp ns e1 e N=>
     rw [e]
     refine wpAny_bind (wpAny_pure ?_)
     rw [e1] at h1
     cases n with
     | zero=>exact h1.elim
     | succ n=>
     refine byC λ nG=>?_
     obtain⟨hb,h2⟩:=rNoB h1
     obtain⟨ws,rfl,_,h3⟩:=run_un h2
     obtain⟨hl,hlen,hK⟩:=asgs_names N J1.kc h3
     obtain⟨a,xs,rfl,ht,hx⟩:=tup_vrs fx J1.S hv
     refine nG ?_
     have hnd:ns.Nodup:=N.part▸of_decide_eq_true (nbF (Bool.or_eq_false_iff.mp hb).2)
     refine wpAny_bind (wpAny_rule ?_)
     have hn:ns.length=xs.toArray.size:=by simp only [List.size_toArray,hx.length,hlen]
     rw [hn]
     refine wpAny_bind (unpack_items (heldOk J1.S) ht λ h2 hk=>?_)
     have S2:St g c m φ1 nw1 H1 {s1 with heap:=h2}:=J1.S.more (tk:=s1.toks) (J1.S.F.keeps hk) (J1.S.N.grown hk) λ _ h=>h
     have J2:=J1.step S2 (.refl _ _) ⟨h2,s1.toks,rfl⟩
     refine wpAny_bind (store_all fx (vs:=ws.reverse) J2 (λ y hy=>hl y (List.mem_reverse.mp hy)) (by simp [hlen]) (by simpa using VRs.reverse hx) λ nw' m' s' J'=>wpAny_pure ?_)
     have hkeys:((ns.zip ws).map (·.1))=ns:=by
      rw [List.map_fst_zip]
      lia
     have hzr:ns.reverse.zip ws.reverse=(ns.zip ws).reverse:=by
      exact zip_rev hlen
     refine⟨putAll (ns.zip ws) ρ,φ1,nw',H1,m',J'.lkeq λ y=>?_,hK⟩
     rw [hzr,lk_putAll (by rw [hkeys];exact hnd),lk_putAll (by simp only [List.map_reverse,hkeys];exact(List.reverse_perm ns).nodup_iff.mpr hnd),lookup_reverse (by rw [hkeys];exact hnd)]
end
end VS.Internal
end
section
open PySem PySem.W PySem.Calls PyProof.Rows PySem.SeqAt
set_option backward.match.sparseCases false
set_option maxRecDepth 100000
namespace VS.Internal
structure ExcK(K:Frag)(C:Addr):Prop where
 obj:∃ nm q N bs bm sn sub ab col dd k0 k1 k2 k3 k5,K.lookup C=some (excClassObj nm q C N bs bm true sn sub ab col dd k0 k1 k2 k3 k5 "ValueError.__new__")∧excOver bm=true
section
variable{g:G0}{call:CallT}{hd:Bool}{k n:Nat}{c:Cx}{sc:Scope}{ρ:Lo}{m:PySem.Str→Option Value}{φ φ₀ φ':Ph}{nw nw₀ nw':Nw}{H H':Hp}{s s₀ s':Shared}{X:Addr→Hp→Prop}{P:Fl→Hp→Prop}{K:Lo→M Fl}
theorem cell_noVal{o:Obj}{v:Option Value}(h:o.data = .cell v):¬ Val o:=noV h rfl
open Classical in
theorem SI.rebase(J:SI g c sc φ₀ nw₀ s₀ ρ φ nw H m s):∃ nwb,SI g c sc φ nwb s ρ φ nw H m s∧Ext φ₀ nw₀ φ nwb∧(∀ p∈nw,(∀ x cc,c.env₀.cells.lookup x=some cc→p.1≠cc)→p∈nwb)∧ExtV φ nw φ nwb:=by
 have mem:∀ p,p∈nw.filter (λ p=>decide (∀ x cc,c.env₀.cells.lookup x=some cc→p.1≠cc))↔p∈nw∧∀ x cc,c.env₀.cells.lookup x=some cc→p.1≠cc:=λ p=>by rw [List.mem_filter];simp
 have x0:Ext φ₀ nw₀ φ (nw.filter (λ p=>decide (∀ x cc,c.env₀.cells.lookup x=some cc→p.1≠cc))):=⟨J.x.pre,λ p h nn=>by
  obtain⟨h1 | ⟨q,sl,h1⟩,h2⟩:=J.x.kx p h nn
  ·exact⟨.inl ((mem _).mpr ⟨h1,λ x cc hx=>J.off x cc hx p h⟩),h2⟩
  ·exact⟨.inr ⟨q,sl,(mem _).mpr ⟨h1,λ x cc hx=>J.off x cc hx p h⟩⟩,h2⟩⟩
 refine⟨_,{J with x:=ext_sub λ p hp=>((mem p).mp hp).1,u:=.refl _,f0:=J.f0.mono x0.s,o0:=J.o0.mono x0.s,off:=λ x cc hx p hp=>((mem p).mp hp).2 x cc hx},x0,λ p hp hn=>(mem p).mpr ⟨hp,hn⟩,⟨List.prefix_refl _,λ p hp nn hv=>⟨.inl ((mem p).mpr ⟨hp,λ x cc hx q=>?_⟩),nn⟩⟩⟩
 obtain⟨o,v,h1,_,h3⟩:=J.alive x cc hx
 obtain⟨a,ob⟩:=p
 dsimp only at q
 subst q
 exact cell_noVal h3 (same_obj J.S hp h1▸hv)
theorem SI.unbase{ρ':Lo}{φ1:Ph}{nwb nw1:Nw}{s1:Shared}{m1:PySem.Str→Option Value}(J:SI g c sc φ₀ nw₀ s₀ ρ φ nw H m s)(x0:Ext φ₀ nw₀ φ nwb)(J1:SI g c sc φ nwb s ρ' φ1 nw1 H' m1 s1):SI g c sc φ₀ nw₀ s₀ ρ' φ1 nw1 H' m1 s1:=
 {J1 with x:=x0.trans J1.x,u:=J.u.trans J1.u,f0:=J.f0,o0:=J.o0,off:=J.off}
theorem SI.next{src:Src}{kk:Nat}{I:Addr}(J:SI g c sc φ₀ nw₀ s₀ ρ φ nw H m s)(hI0:∀ p∈nw₀,p.1≠I){o:Obj}(hI:(I,o)∈nw)(hn:∃ fs,o.data = .fields fs){nw1:Nw}(hk:∀ p∈nw,p.1≠I→p∈nw1)(x1:ExtS φ nw φ nw1)(S1:St g c m φ nw1 H s')(u1:Upto s s') :
  SI g c sc φ₀ nw₀ s₀ ρ φ nw1 H m s':=
 {J with
  S:=S1,O:=J.O.mono x1,x:=ext_off J.x hI0 hk,u:=J.u.trans u1
  alive:=λ y cc hy=>by
   refine byC λ nG=>?_
   obtain⟨o',v,h1,h2,h3⟩:=J.alive y cc hy
   refine nG ?_
   refine⟨o',v,hk _ h1 λ q=>?_,h2,h3⟩
   have q':cc=I:=q
   subst q'
   obtain⟨fs,hf⟩:=hn
   rw [same_obj J.S h1 hI,hf] at h3;cases h3}
theorem SX.up{u:Value}{nwb:Nw}(J:SI g c sc φ₀ nw₀ s₀ ρ φ nw H m s)(x0:Ext φ₀ nw₀ φ nwb)(h:SX g c φ nwb s X u s'):SX g c φ₀ nw₀ s₀ X u s':=let ⟨m',q⟩:=h;⟨m',PostX.mono x0 J.u q⟩
structure StOk(g:G0)(k n:Nat):Prop where
 one:∀{hd:Bool}{call callH:CallT}{c:Cx}{sc:Scope}{φ₀:Ph}{nw₀:Nw}{s₀:Shared}{ρ:Lo}{φ:Ph}{nw:Nw}{H:Hp}{m:PySem.Str→Option Value}{s:Shared}{st:Stmt}{K:Lo→M Fl}{P:Fl→Hp→Prop}{X:Addr→Hp→Prop},
  CallOk hd g call k→CallOk true g callH k→Fx g c→BudX hd c X k→SI g c sc φ₀ nw₀ s₀ ρ φ nw H m s→Run (evS g.K hd call callH n sc st ρ K H) P X→
  wpAny (model g.prog g.w) c.A (exec st c.env₀) (SPost g c sc φ₀ nw₀ s₀ K P X) (SX g c φ₀ nw₀ s₀ X) s
 all:∀{hd:Bool}{call callH:CallT}{c:Cx}{sc:Scope}{φ₀:Ph}{nw₀:Nw}{s₀:Shared}{ρ:Lo}{φ:Ph}{nw:Nw}{H:Hp}{m:PySem.Str→Option Value}{s:Shared}{ss:List Stmt}{K:Lo→M Fl}{P:Fl→Hp→Prop}{X:Addr→Hp→Prop},
  CallOk hd g call k→CallOk true g callH k→Fx g c→BudX hd c X k→SI g c sc φ₀ nw₀ s₀ ρ φ nw H m s→Run (evSs g.K hd call callH n sc ss ρ K H) P X→
  wpAny (model g.prog g.w) c.A (execs ss c.env₀) (SPost g c sc φ₀ nw₀ s₀ K P X) (SX g c φ₀ nw₀ s₀ X) s
inductive FI(g:G0)(hd:Bool)(call callH:CallT)(n:Nat)(c:Cx)(sc:Scope)(φ₀:Ph)(nw₀:Nw)(s₀:Shared)(x:PySem.Str)(body:List Stmt)(src:Src)(I:Addr)(K:Lo→M Fl)(P:Fl→Hp→Prop)(X:Addr→Hp→Prop)(fuel:Nat)(s:Shared):Prop
 | mk (i:Nat) (ρ:Lo) (φ:Ph) (nw:Nw) (H:Hp) (m:PySem.Str→Option Value) (J:SI g c sc φ₀ nw₀ s₀ ρ φ nw H m s) (it:IterOk g.K src i φ nw I) (im:I∉mutA φ)
  (h:Run (forLoop fuel src i ρ (λ v ρ' k'=>evSs g.K hd call callH n sc body (put x v ρ') k') K H) P X)
theorem for_loop{callH:CallT}{x:PySem.Str}{px:Pos}{body:List Stmt}{src:Src}{I:Addr}(Z:StOk g k n)(hc:CallOk hd g call k)(hcH:CallOk true g callH k)(fx:Fx g c)(bf:BudX hd c X k)(hx:sc.names.lookup x=some .local)
  (hI0:∀ p∈nw₀,p.1≠I) (fuel i:Nat) (J:SI g c sc φ₀ nw₀ s₀ ρ φ nw H m s) (it:IterOk g.K src i φ nw I) (im:I∉mutA φ)
  (h:Run (forLoop fuel src i ρ (λ v ρ' k'=>evSs g.K hd call callH n sc body (put x v ρ') k') K H) P X) :
  codeAny (model g.prog g.w) c.A (.forLoop (.Name x px) (.ref I) body [] c.env₀) (λ r s'=>match r with | .ok f=>SPost g c sc φ₀ nw₀ s₀ K P X f s' | .error e=>cameBackBy (model g.prog g.w) c.A c.env₀ (SX g c φ₀ nw₀ s₀ X) e s') s:=by
 obtain⟨SP,sp1,hSP⟩:∃ SP,(∀ f s,SPost g c sc φ₀ nw₀ s₀ K P X f s→SP f s)∧SPost g c sc φ₀ nw₀ s₀ K P X=SP:=⟨_,λ _ _ h=>h,rfl⟩
 obtain⟨CB,pss,hCB⟩:∃ CB,(∀ u s,SX g c φ₀ nw₀ s₀ X u s→notedBy (model g.prog g.w) c.A c.env₀ CB u s)∧cameBackBy (model g.prog g.w) c.A c.env₀ (SX g c φ₀ nw₀ s₀ X)=CB:=
  ⟨_,passes (φ₀:=φ₀) (nw₀:=nw₀) (s₀:=s₀) (X:=X) fx (A:=c.A) rfl (E:=SX g c φ₀ nw₀ s₀ X) λ _ _ z=>z,rfl⟩
 rw [hSP,hCB]
 clear hSP hCB
 obtain⟨Inv,back,dest⟩:∃ Inv:Nat→Shared→Prop,(∀ fuel s,FI g hd call callH n c sc φ₀ nw₀ s₀ x body src I K P X fuel s→Inv fuel s)∧∀ fuel s,Inv fuel s→FI g hd call callH n c sc φ₀ nw₀ s₀ x body src I K P X fuel s:=⟨_,λ _ _ h=>h,λ _ _ h=>h⟩
 refine codeAny_forLoop Inv (λ fuel s hI=>?_) fuel (back _ _ ⟨i,ρ,φ,nw,H,m,J,it,im,h⟩)
 clear J it im h
 replace hI:=dest _ _ hI
 clear dest
 refine byC λ no=>?_
 obtain⟨i,ρ,φ,nw,H,m,J,it,im,h⟩:=hI
 cases fuel with
 | zero=>exact h.elim
 | succ fuel=>
 obtain⟨r,e,h0⟩:=turn_is (e:=K ρ) (f:=λ v=>evSs g.K hd call callH n sc body (put x v ρ) λ ρ'=>forLoop fuel src (i+1) ρ' (λ v ρ' k'=>evSs g.K hd call callH n sc body (put x v ρ') k') K) h
 clear h
 obtain⟨oI,hoI,hIter⟩:=it.obj
 refine no ?_
 refine wpAny_mono (next_sound (E:=λ _ _=>False) fx J.S it im e) (λ q s1 hq=>?_) λ _ _ z=>z.elim
 cases hq with
 | fin nw1 u1 hk1 y1 S1 hr hq=>
  subst hr hq
  exact wpAny_execs_nil (sp1 .next _ ⟨ρ,φ,nw1,H,m,J.next (src:=src) (kk:=i) hI0 hoI hIter.2 hk1 y1 S1 u1,h0⟩)
 | stp nw1 u1 hk1 y1 S1 v xv hr hq hv it1=>
  subst hr hq
  have J1:=J.next (src:=src) (kk:=i) hI0 hoI hIter.2 hk1 y1 S1 u1
  dsimp only
  refine wpAny_assign_Name (J1.name fx (.inl hx) hv λ nw2 m2 s2 J2 v2 k2=>?_)
  have hIn:∀ o,(I,o)∈nw1→(I,o)∈nw2:=λ o ho=>k2 _ ho λ cc hcc q=>by
   obtain⟨o',v',h1,_,h3⟩:=J1.alive x cc hcc
   have q':cc=I:=Eq.symm q
   cases q'
   obtain⟨o1,ho1,hi1⟩:=it1.obj
   obtain⟨fs,hf⟩:=hi1.2
   rw [same_obj S1 h1 ho1,hf] at h3;exact nomatch h3
  have it2:=it1.chg v2 hIn
  refine byC λ nG=>?_
  obtain⟨nwb,Jb,x0,kb,vb⟩:=J2.rebase
  refine nG ?_
  have hIb:∀ o,(I,o)∈nw2→(I,o)∈nwb:=λ o ho=>kb _ ho λ y cc hy q=>by
   obtain⟨o',v',h1,_,h3⟩:=J2.alive y cc hy
   have q':cc=I:=Eq.symm q
   cases q'
   obtain⟨o1,ho1,hi1⟩:=it2.obj
   obtain⟨fs,hf⟩:=hi1.2
   rw [same_obj J2.S h1 ho1,hf] at h3;exact nomatch h3
  have itb:=it2.chg vb hIb
  refine wpAny_mono (Z.all hc hcH fx bf Jb h0) (λ f s3 hf=>?_) λ u s3 hx3=>pss u s3 (SX.up J2 x0 hx3)
  cases f with
  | next=>
   obtain⟨ρ3,φ3,nw3,H3,m3,J3,h3⟩:=hf
   obtain⟨ob,hob,_⟩:=itb.obj
   exact⟨fuel,Nat.lt_succ_self _,back _ _ ⟨i+1,ρ3,φ3,nw3,H3,m3,SI.unbase J2 x0 J3,itb.mono J3.x im,(J3.x.dc _ hob im).2,h3⟩⟩
  | ret w=>
   refine byC λ nG=>?_
   obtain⟨φ3,nw3,H3,m3,v3,S3,x3,u3,hv3,hP⟩:=hf
   refine nG ?_
   exact sp1 (.ret w) _ ⟨φ3,nw3,H3,m3,v3,S3,x0.trans x3,J2.u.trans u3,hv3,hP⟩
  | _=>exact hf.elim
end
end VS.Internal
end
section
open PySem PySem.W PySem.Calls PyProof.Rows PySem.SeqAt
set_option backward.match.sparseCases false
set_option maxRecDepth 100000
namespace VS.Internal
noncomputable def RaiseOk(g:G0)(k:Nat):Prop:=
 ∀{c:Cx}{sc:Scope}{φ₀:Ph}{nw₀:Nw}{s₀:Shared}{ρ:Lo}{φ:Ph}{nw:Nw}{H:Hp}{m:PySem.Str→Option Value}{s:Shared}{cn:PySem.Str}{np cpos pos:Pos}{e:Expr}{Q:Flow→Shared→Prop}{X:Addr→Hp→Prop},
  Fx g c→BudF c.A k→c.A.handled=none→SI g c sc φ₀ nw₀ s₀ ρ φ nw H m s→sc.names.lookup cn=some .globalImplicit→globV g.K cn=some (.sta (.ref 80))→constStr e=true→X 80 H→
  wpAny (model g.prog g.w) c.A (exec (.Raise (some (.Call (.Name cn np) [e] [] cpos)) none pos) c.env₀) Q (SX g c φ₀ nw₀ s₀ X) s
noncomputable def CatchOk(g:G0):Prop:=
 ∀{c:Cx}{sc:Scope}{φ₀:Ph}{nw₀:Nw}{s₀:Shared}{ρ:Lo}{φ φ1:Ph}{nw nw1:Nw}{H H1:Hp}{m:PySem.Str→Option Value}{s s1:Shared}{cn:PySem.Str}{np hpos:Pos}{e:Addr}{b₀:Stmt}{suite:List Stmt}{Q:Flow→Shared→Prop}{X:Addr→Hp→Prop},
  Fx g c→c.A.handled=none→SI g c sc φ₀ nw₀ s₀ ρ φ nw H m s→sc.names.lookup cn=some .globalImplicit→globV g.K cn=some (.sta (.ref 80))→
  St g c m φ1 nw1 H1 s1→Ext φ nw φ1 nw1→Fly c.b₀ c.L nw1 e (.ref 80) s1.heap→Upto s s1→
  (∀ oe nw2 s2,Ext φ₀ nw₀ φ1 nw2→SI g {c with A:=c.A.mark (some (.ref e))} sc φ₀ ((e,oe)::nw₀) s₀ ρ φ1 nw2 H1 m s2→
   wpAny (model g.prog g.w) (c.A.mark (some (.ref e))) (execs (b₀ :: suite) c.env₀) Q (λ _ _=>False) s2)→
  wpAny (model g.prog g.w) c.A (noteFrame (.ref e) c.env₀) (λ _ s₂=>wpAny (model g.prog g.w) c.A (setFlight (.ref e) none) (λ _ s₃=>
   wpAny (model g.prog g.w) c.A (handleBy (.ref e) c.env₀ [.ExceptHandler (some (.Name cn np)) none (b₀ :: suite) hpos]) Q (SX g c φ₀ nw₀ s₀ X) s₃) (SX g c φ₀ nw₀ s₀ X) s₂) (SX g c φ₀ nw₀ s₀ X) s1
section
variable{g:G0}{call callH:CallT}{hd:Bool}{k n:Nat}{K':Lo→M Fl}{c:Cx}{sc:Scope}{ρ:Lo}{m:PySem.Str→Option Value}{φ φ₀ φ':Ph}{nw nw₀ nw':Nw}{H H':Hp}{s s₀ s':Shared}{X:Addr→Hp→Prop}{P:Fl→Hp→Prop}{K:Lo→M Fl}
theorem interactive_no(J:SI g c sc φ₀ nw₀ s₀ ρ φ nw H m s):interactive c.env₀ = false:=by
 unfold interactive
 rw [J.O.kind];rfl
theorem hx_none{hd:Bool}{A:Around}{X:Addr→Hp→Prop}{C:Addr}{h:Hp}(b:HX hd A X)(hX:X C h):hd=false∧A.handled=none:=b.elim id λ⟨_,q⟩=>absurd hX (q _ _)
noncomputable def isTry(s:Stmt):Bool:=Nat.beq s.ctorIdx 17
theorem run_asI{v:V}{PI:Int→Hp→Prop}(h:Run (asI v H) PI X):∃ i,v = .int i∧PI i H:=onInt_is h
theorem is80_is{K:Frag}{cn:PySem.Str}(h:is80 K sc cn=true):sc.names.lookup cn=some .globalImplicit∧globV K cn=some (.sta (.ref 80)):=by
 obtain⟨h1,h2⟩:=(Bool.and_eq_true _ _).mp h
 refine⟨isK_im h1,?_⟩
 refine oC (((globV K cn).bind staI).bind vRef) (λ e=>by rw [e] at h2;exact nomatch h2) λ C e=>?_
 rw [e] at h2
 refine bind_is e λ u e1 e2=>bind_is e1 λ w e3 e4=>?_
 rw [e3,staI_is e4,vRef_is e2,Nat.eq_of_beq_eq_true h2]
theorem st_augA(hc:CallOk hd g call k)(fx:Fx g c)(bf:BudX hd c X k)(J:SI g c sc φ₀ nw₀ s₀ ρ φ nw H m s){o value:Expr}{x:PySem.Str}{tpos pos:Pos}
  (h:Run (evE g.K call n sc ρ o H) (λ ov h=>Run (getA g.K ov x h) (λ old h=>Run (asI old h) (λ i h=>Run (evE g.K call n sc ρ value h) (λ w h=>Run (asI w h) (λ j h=>Run (setA g.K ov x (.int (i+j)) h) (λ _ h=>Run (K ρ h) P X) X) X) X) X) X) X) :
  wpAny (model g.prog g.w) c.A (exec (.AugAssign (.Attribute o x tpos) .Add value pos) c.env₀) (SPost g c sc φ₀ nw₀ s₀ K P X) (SX g c φ₀ nw₀ s₀ X) s:=by
 have Y:=sound_all hc n
 simp only [arm_exec_AugAssign_2]
 refine wpAny_bind (wpAny_standAt (wpAny_bind (J.bind (Y.E fx bf J.S J.O h) λ φ1 nw1 H1 ov uo s1 J1 x1 hov h1=>?_)))
 refine wpAny_bind (wpAny_holding (wpAny_bind (wpAny_standAt (wpAny_bind (J1.bind (wpAny_mono (getA_sound (E:=PostX g c m φ1 nw1 X s1) fx J1.S hov h1) (λ _ _ z=>z) λ _ _ z=>z) λ φ2 nw2 H2 old uold s2 J2 x2 hold h2=>?_)))))
 refine byC λ nG=>?_
 obtain⟨i,rfl,h2⟩:=run_asI h2
 obtain⟨t1,rfl⟩:=int_is hold
 refine nG ?_
 refine wpAny_bind (wpAny_holding (J2.bind (Y.E fx bf J2.S J2.O h2) λ φ3 nw3 H3 w uw s3 J3 x3 hw h3=>?_))
 refine byC λ nG=>?_
 obtain⟨j,rfl,h3⟩:=run_asI h3
 obtain⟨t2,rfl⟩:=int_is hw
 refine nG ?_
 refine wpAny_bind (wpAny_standAt (wpAny_operate' (AutoIntOps.iadd_0 ?_)))
 refine wpAny_bind (wpAny_standAt (wpAny_bind (wpAny_holding (wpAny_mono (setA_sound (E:=SX g c φ₀ nw₀ s₀ X) fx (J3.S.tok _) (VR.mono (x2.trans x3).s _ _ hov) vr_int h3) (λ _ s5 hq=>?_) λ _ _ z=>z))))
 obtain⟨φ5,nw5,H5,S5,x5,h5,u5⟩:=hq
 exact wpAny_bind (wpAny_release' (wpAny_pure ⟨ρ,φ5,nw5,H5,m,J3.step S5 x5 (Upto.trans ⟨_,_,rfl⟩ u5),h5⟩))
theorem aug_alt(i:Expr):cond (Nat.beq i.ctorIdx 26) True (∀ ov' iv' nv,augStore i ov' iv' nv=(do holding [nv,ov',iv'] (setItem ov' iv' nv);release [nv,ov',iv'] [];pure Flow.next)):=by
 cases i<;>first | exact True.intro | exact λ _ _ _=>rfl
theorem st_augS(hc:CallOk hd g call k)(fx:Fx g c)(bf:BudX hd c X k)(J:SI g c sc φ₀ nw₀ s₀ ρ φ nw H m s){o i value:Expr}{spos pos:Pos}(hns:notSlice i=true)
  (h:Run (evE g.K call n sc ρ o H) (λ ov h=>Run (evE g.K call n sc ρ i h) (λ iv h=>Run (getI ov iv h) (λ old h=>Run (asI old h) (λ a h=>Run (evE g.K call n sc ρ value h) (λ w h=>Run (asI w h) (λ b h=>Run (setI ov iv (.int (a+b)) h) (λ _ h=>Run (K ρ h) P X) X) X) X) X) X) X) X) :
  wpAny (model g.prog g.w) c.A (exec (.AugAssign (.Subscript o i spos) .Add value pos) c.env₀) (SPost g c sc φ₀ nw₀ s₀ K P X) (SX g c φ₀ nw₀ s₀ X) s:=by
 have Y:=sound_all hc n
 have haug:∀ ov' iv' nv,augStore i ov' iv' nv=(do holding [nv,ov',iv'] (setItem ov' iv' nv);release [nv,ov',iv'] [];pure Flow.next):=λ ov' iv' nv=>by
  have q:=aug_alt i
  rw [show Nat.beq i.ctorIdx 26=false from nbT hns] at q
  exact q ov' iv' nv
 simp only [arm_exec_AugAssign_3]
 refine wpAny_bind (wpAny_standAt (wpAny_bind (J.bind (Y.E fx bf J.S J.O h) λ φ1 nw1 H1 ov uo s1 J1 x1 hov h1=>?_)))
 refine wpAny_bind (wpAny_holding (J1.bind (Y.E fx bf J1.S J1.O h1) λ φ1' nw1' H1' iv ui s1' J1' x1' hiv h1'=>?_))
 refine wpAny_bind (wpAny_holding (wpAny_bind (wpAny_standAt (wpAny_bind (J1'.bind (getI_item (E:=PostX g c m φ1' nw1' X s1') fx J1'.S (VR.mono x1'.s _ _ hov) hiv h1').w λ φ2 nw2 H2 old uold s2 J2 x2 hold h2=>?_)))))
 refine byC λ nG=>?_
 obtain⟨a,rfl,h2⟩:=run_asI h2
 obtain⟨t1,rfl⟩:=int_is hold
 refine nG ?_
 refine wpAny_bind (wpAny_holding (J2.bind (Y.E fx bf J2.S J2.O h2) λ φ3 nw3 H3 w uw s3 J3 x3 hw h3=>?_))
 refine byC λ nG=>?_
 obtain⟨b,rfl,h3⟩:=run_asI h3
 obtain⟨t2,rfl⟩:=int_is hw
 refine nG ?_
 refine wpAny_bind (wpAny_standAt (wpAny_operate' (AutoIntOps.iadd_0 ?_)))
 refine wpAny_bind (wpAny_standAt ?_)
 rw [haug]
 refine wpAny_bind (wpAny_holding (wpAny_mono (setI_sound (E:=SX g c φ₀ nw₀ s₀ X) (J3.S.tok _) (VR.mono ((x1'.trans x2).trans x3).s _ _ hov) (VR.mono (x2.trans x3).s _ _ hiv) vr_int h3) (λ _ s5 hq=>?_) λ _ _ z=>z))
 obtain⟨φ5,nw5,H5,S5,x5,h5,u5⟩:=hq
 exact wpAny_bind (wpAny_release' (wpAny_pure ⟨ρ,φ5,nw5,H5,m,J3.step S5 x5 (Upto.trans ⟨_,_,rfl⟩ u5),h5⟩))
theorem st_for(Z:StOk g k n)(hc:CallOk hd g call k)(hcH:CallOk true g callH k)(fx:Fx g c)(bf:BudX hd c X k)(J:SI g c sc φ₀ nw₀ s₀ ρ φ nw H m s){x:PySem.Str}{px pos:Pos}{iter:Expr}{body:List Stmt}(hns:notSet iter=true)(hx:sc.names.lookup x=some .local)
  (h:Run (evE g.K call n sc ρ iter H) (λ v h=>Run (toSrc v h) (λ src h=>Run (forLoop 200 src 0 ρ (λ v ρ' k'=>evSs g.K hd call callH n sc body (put x v ρ') k') K h) P X) X) X) :
  wpAny (model g.prog g.w) c.A (exec (.For (.Name x px) iter body [] pos) c.env₀) (SPost g c sc φ₀ nw₀ s₀ K P X) (SX g c φ₀ nw₀ s₀ X) s:=by
 have Y:=sound_all hc n
 refine wpAny_For (J.bind (Y.E fx bf J.S J.O h) λ φ1 nw1 H1 v u s1 J1 x1 hv h1=>?_) (λ v=>set_no hns _ v)
 refine wpAny_mono (iter_sound (E:=SX g c φ₀ nw₀ s₀ X) fx J1.S hv h1) (λ it s2 hq=>?_) λ _ _ z=>z
 obtain⟨I,oI,src,rfl,S2,it2,hI1,im2,h2,u2⟩:=hq
 refine for_loop Z hc hcH fx bf hx (λ p hp q=>?_) 200 0 (J1.step S2 (ext_sub λ _ h=>.tail _ h) u2) it2 im2 h2
 obtain⟨r,hr,e⟩:=ext_addr J1.S J1.x p hp
 exact hI1 r hr (e.trans q)
theorem st_if(Z:StOk g k n)(hc:CallOk hd g call k)(hcH:CallOk true g callH k)(fx:Fx g c)(bf:BudX hd c X k)(J:SI g c sc φ₀ nw₀ s₀ ρ φ nw H m s){t:Expr}{b o:List Stmt}{pos:Pos}
  (h:Run (evE g.K call n sc ρ t H) (boolP λ c h1=>Run ((if c then evSs g.K hd call callH n sc b ρ K else evSs g.K hd call callH n sc o ρ K) h1) P X) X) :
  wpAny (model g.prog g.w) c.A (exec (.If t b o pos) c.env₀) (SPost g c sc φ₀ nw₀ s₀ K P X) (SX g c φ₀ nw₀ s₀ X) s:=by
 have Y:=sound_all hc n
 refine wpAny_If (J.bind (Y.I fx bf J.S J.O h) λ φ1 nw1 H1 b u s1 J1 x1 hb h1=>?_)
 subst hb
 cases b with
 | true=>exact Z.all hc hcH fx bf J1 h1
 | false=>exact Z.all hc hcH fx bf J1 h1
theorem st_simple(Z:StOk g k n)(hR:RaiseOk g k)(hc:CallOk hd g call k)(hcH:CallOk true g callH k)(fx:Fx g c)(bf:BudX hd c X k)(J:SI g c sc φ₀ nw₀ s₀ ρ φ nw H m s){st:Stmt}(hst:isTry st=false)
  (h:Run (evS g.K hd call callH (n+1) sc st ρ K H) P X):wpAny (model g.prog g.w) c.A (exec st c.env₀) (SPost g c sc φ₀ nw₀ s₀ K P X) (SX g c φ₀ nw₀ s₀ X) s:=by
 have Y:=sound_all hc n
 cases st with
 | Expr value pos=>
  refine byC λ nG=>?_
  obtain⟨hcm,h⟩:=rNoB (b:=isComp value) (t:=M.bind (evE g.K call n sc ρ value) λ _=>K ρ) h
  refine nG ?_
  exact wpAny_Expr_any (J.bind (Y.E fx bf J.S J.O h) λ φ1 nw1 H1 v u s1 J1 x1 hv h1=>⟨ρ,φ1,nw1,H1,m,J1,h1⟩) (interactive_no J) (swaps_not hcm)
 | Return value pos=>
  cases value with
  | none=>exact wpAny_Return_none ⟨φ,nw,H,m,.none,J.S,J.x,J.u,vr_none,h⟩
  | some e=>exact wpAny_Return_some (J.bind (Y.E fx bf J.S J.O (P:=λ v h=>P (Fl.ret v) h) h) λ φ1 nw1 H1 v u s1 J1 x1 hv h1=>⟨φ1,nw1,H1,m,v,J1.S,J1.x,J1.u,hv,h1⟩)
 | Assign ts value pos=>
  refine byC λ nG=>?_
  obtain⟨t,e,h1⟩:=onSome_is (o:=oneL ts) h
  obtain⟨ho,h2⟩:=rIf (p:=okSwap value=true) h1
  cases oneL_is e
  exact nG (Assign_sound hc fx bf bf J ho (λ _ _ z=>SX.of J z) (λ _ _ z=>z) h2)
 | If t b o pos=>exact st_if Z hc hcH fx bf J (Run.mono (r:=evE g.K call n sc ρ t H) h (λ v h1 hh=>boolRun hh) λ _ _ hx=>hx)
 | For target iter body orelse pos=>
  refine byC λ nG=>?_
  obtain⟨hb,h2⟩:=rNoB h
  clear h
  obtain⟨hns,ho⟩:=Bool.or_eq_false_iff.mp hb
  obtain⟨x,e,h2⟩:=onSome_is h2
  obtain⟨hx,h3⟩:=rIf h2
  obtain⟨px,rfl⟩:=name_is e
  obtain rfl:orelse=[]:=List.isEmpty_iff.mp (nbF ho)
  exact nG (st_for Z hc hcH fx bf J (nbF hns) (isK_is hx) h3)
 | AugAssign target op value pos=>
  refine(rNoB h).elim λ ho h2=>?_
  clear h
  obtain rfl:=add_is (nbF ho)
  refine run_elim (o:=attrPart target) h2 (λ _ h2=>?_) λ q e h2=>?_
  ·refine byC λ nG=>?_
   obtain⟨q,e,h3⟩:=onSome_is h2
   obtain⟨hns,h4⟩:=rNoB h3
   obtain⟨sp,rfl⟩:=sub_is e
   exact nG (st_augS hc fx bf J (nbF hns) h4)
  ·cases attr_is e
   exact st_augA hc fx bf J h2
 | Raise exc cause pos=>
  refine byC λ nG=>?_
  obtain⟨q,e,h0⟩:=onSome_is (o:=exc.bind callOne) h
  clear h
  ·obtain⟨h1,hX⟩:=rIf h0
   obtain⟨h1,h2⟩:=(Bool.and_eq_true _ _).mp h1
   obtain⟨h3,h1⟩:=(Bool.and_eq_true _ _).mp h1
   obtain⟨h4,h5⟩:=is80_is h2
   obtain⟨ex,rfl,e⟩:=Option.bind_eq_some_iff.mp e
   obtain⟨np,cpos,rfl⟩:=callOne_is e
   obtain rfl:=Option.isNone_iff_eq_none.mp h3
   exact nG (hR fx bf.1 (hx_none bf.2 hX).2 J h4 h5 h1 hX)
 | Try=>cases hst
 | _=>exact h.elim
end
end VS.Internal
end
section
open PySem PySem.W PySem.Calls PyProof.Rows PySem.SeqAt
set_option backward.match.sparseCases false
set_option maxRecDepth 100000
namespace VS.Internal
structure KX(K:Frag):Prop where
 exc:ExcK K 80
 db:globV K "__debug__"≠some (.sta (.ref 80))
 cd:globV K "__classdict__"≠some (.sta (.ref 80))
theorem over_base{l:List Value}(h:excOver l=true):l.contains (.type "BaseException")=true:=exc_has rfl h
section
variable{g:G0}{c:Cx}{sc:Scope}{ρ:Lo}{m:PySem.Str→Option Value}{φ φ₀:Ph}{nw nw₀:Nw}{H:Hp}{s s₀:Shared}{X:Addr→Hp→Prop}
theorem name_here(kx:KX g.K){cn:PySem.Str}{pos:Pos}{env:Env}{A:Around}{E:Value→Shared→Prop}{T:Value→Shared→Prop}(fx:Fx g c)(S:St g c m φ nw H s)(O:EnvOk g c env sc ρ m φ nw)
  (hk:sc.names.lookup cn=some .globalImplicit) (h3:globV g.K cn=some (.sta (.ref 80))) (q:T (.ref 80) s):wpAny (model g.prog g.w) A (eval (.Name cn pos) env) T E s:=by
 have hdb:(cn==("__debug__" : PySem.Str))=false:=beq_eq_false_iff_ne.mpr λ q=>kx.db (q▸h3)
 have hg:s.heap.Ns env.globals g.mg:=by rw [O.glob];exact fx.T.g.keeps S.F.keep
 refine bind_is h3 λ o e1 e2=>elim_is e2 (λ e3 e2=>?_) λ u e3 e2=>?_
 ·subst e3
  refine map_is (iteN e2).2 λ u e4 e5=>?_
  cases e5
  have hn':cn≠("__name__" : PySem.Str):=λ q=>absurd (beq_iff_eq.mpr q) (ne_true_of_eq_false (iteN e2).1)
  exact Calls.Name_function_global O.kind (O.scg cn hk) (Calls.loadGlobal_builtin hg (mg_none_of fx.X fx.T.g e1) (by rw [O.bi];exact fx.T.b.keeps S.F.keep) ((fx.T.builtins cn hn').trans e4) q) hdb
 ·subst e3
  cases (valV_VR (φ:=[]) (nw:=[]) e2:u = .ref 80)
  exact Calls.Name_function_global O.kind (O.scg cn hk) (Calls.loadGlobal_global hg (mg_of fx.X fx.T.g e1) q) hdb
theorem SI.caught{φ1:Ph}{nw1 nw4:Nw}{H1:Hp}{s4:Shared}{e:Addr}(fx:Fx g c)(J:SI g c sc φ₀ nw₀ s₀ ρ φ nw H m s)(x1:Ext φ nw φ1 nw1)(en:∀ p∈nw1,p.1≠e)(inc:∀ p∈nw4,∃ q∈nw1,q.1=p.1)
  (S4:St g c m φ1 nw4 H1 s4) (x4:Ext φ1 nw1 φ1 nw4) (u4:Upto s s4) (F4:FlyT c.b₀ c.L nw4 e (.ref 80) .none s4.heap) :
  ∃ oe nw2,Ext φ₀ nw₀ φ1 nw2∧SI g {c with A:=c.A.mark (some (.ref e))} sc φ₀ ((e,oe)::nw₀) s₀ ρ φ1 nw2 H1 m s4:=by
 refine byC λ nG=>?_
 obtain⟨⟨oe,vs,T,oT,ts,k1,k2,k3,k4,k5,k6,k7,k8,k9,k10,k11,k12⟩,e0,eL,en4⟩:=F4
 refine nG ?_
 have em:e∉mutA φ1:=λ q=>by
  obtain⟨o,ho⟩:=S4.C.owned q
  exact en4 _ ho rfl
 have em0:e∉mutA φ₀:=λ q=>em ((J.x.trans x1).pre.sublist.map _ |>.subset q)
 have xs:Ext φ1 nw4 φ1 ((e,oe)::nw4):=ext_sub λ _ h=>.tail _ h
 have xall:Ext φ nw φ1 ((e,oe)::nw4):=(x1.trans x4).trans xs
 have x0:Ext φ₀ nw₀ φ1 ((e,oe)::nw4):=J.x.trans xall
 have hho:HOk (c.A.mark (some (.ref e))) φ1 ((e,oe)::nw4):=.inr ⟨e,oe,vs,80,rfl,.head _,em,k2,k3,k4⟩
 have S5:St g {c with A:=c.A.mark (some (.ref e))} m φ1 ((e,oe)::nw4) H1 s4:=
  {F:=S4.F,N:=λ p hp=>by
    rcases List.mem_cons.mp hp with rfl | hp
    ·exact⟨k1,eL,e0⟩
    ·exact S4.N p hp
   C:=S4.C.sub λ _ h=>.tail _ h,fo:=S4.fo.mono xs.s,ho:=hho}
 have O5:=J.O.mono xall.s
 refine⟨oe,_,x0,{S:=S5,O:={O5 with},x:=⟨x0.pre,λ p hp n=>?_⟩,u:=J.u.trans u4,f0:=J.f0.mono (ext_sub λ _ h=>.tail _ h).s,o0:=.inr ⟨e,oe,vs,80,rfl,.head _,em0,k2,k3,k4⟩,lo:=J.lo,off:=λ x cc hx p hp=>?_,inj:=J.inj,has:=J.has,kc:=J.kc,alive:=λ y cc h=>?_}⟩
 ·rcases List.mem_cons.mp hp with rfl | hp
  ·exact⟨.inl (.head _),em⟩
  ·exact x0.kx p hp n
 ·rcases List.mem_cons.mp hp with rfl | hp
  ·intro q
   obtain⟨o,v,h1,h2,h3⟩:=J.alive x cc hx
   obtain⟨k1,_⟩:=x1.ex _ h1 h2 (λ es k q=>by rw [h3] at q;cases q)
   exact en _ k1 q.symm
  ·exact J.off x cc hx p hp
 ·obtain⟨o,v,h1,h2,h3⟩:=J.alive y cc h
  obtain⟨k1,k2⟩:=xall.ex _ h1 h2 (λ es k q=>by rw [h3] at q;cases q)
  exact⟨o,v,k1,k2,h3⟩
theorem catch_ok(kx:KX g.K):CatchOk g:=by
 intro c sc φ₀ nw₀ s₀ ρ φ φ1 nw nw1 H H1 m s s1 cn np hpos e b₀ suite Q X fx hh J h2 h3 S1 x1 F1 u1 hk
 refine note_sound fx S1 F1 rfl λ ha nwa Sa xa ia Fa=>?_
 refine flight_sound fx Sa Fa λ hb nwb Sb xb ib Fb=>?_
 have en:=F1.en
 refine wpAny_handleBy_cons ?_ (by intro q;cases q)
 refine codeAny_handlers_test ?_
 refine name_here kx fx Sb (J.O.mono ((x1.trans xa).trans xb).s) h2 h3 ?_
 refine byC λ nG=>?_
 obtain⟨nm,q,N,bs,bm,sn,sub,ab,col,dd,k0,k1,k2,k3,k5,hC,hbm⟩:=kx.exc.obj
 obtain⟨oe,vs,T,oT,ts,y1,y2,_⟩:=Fb.x
 refine nG ?_
 refine wpAny_excMatches_sub_self (Sb.in fx _ _ hC) y1 y2 ?_ ?_
 ·exact over_base hbm
 refine codeAny_handlers_suite ?_
 refine flight_sound fx Sb Fb λ hc nwc Sc xc ic Fc=>?_
 have inc:∀ p∈nwc,∃ q∈nw1,q.1=p.1:=λ p hp=>by
  refine byC λ nG=>?_
  obtain⟨q,hq,e1⟩:=ic p hp
  obtain⟨r,hr,e2⟩:=ib q hq
  obtain⟨t,ht,e3⟩:=ia r hr
  refine nG ?_
  exact⟨t,ht,e3.trans (e2.trans e1)⟩
 refine byC λ nG=>?_
 obtain⟨oe',nw2,x5,J5⟩:=J.caught fx x1 en inc Sc ((xa.trans xb).trans xc) (u1.trans ⟨_,_,rfl⟩) Fc
 refine nG ?_
 exact wpAny_mono (hk oe' nw2 _ x5 J5) (λ f s' q=>q) λ _ _ z=>z.elim
end
end VS.Internal
end
section
open PySem PySem.W PySem.Calls PyProof.Rows PySem.SeqAt
set_option backward.match.sparseCases false
set_option maxRecDepth 100000
namespace VS.Internal
section
variable{g:G0}{call callH:CallT}{hd:Bool}{k n:Nat}{c:Cx}{sc:Scope}{ρ:Lo}{m:PySem.Str→Option Value}{φ φ₀ φ':Ph}{nw nw₀ nw':Nw}{H H':Hp}{s s₀ s':Shared}{X:Addr→Hp→Prop}{P:Fl→Hp→Prop}{K:Lo→M Fl}
noncomputable def afterH(K:Lo→M Fl):Fl→M Fl:=λ fl=>match fl with | .ret v=>M.pure (.ret v) | .next ρ'=>K ρ'
noncomputable def hRun(g:G0)(callH:CallT)(n:Nat)(sc:Scope)(hb₀:Stmt)(hb:List Stmt)(ρ:Lo)(K:Lo→M Fl):M Fl:=
 M.bind (noexc (evSs g.K true callH callH n sc (hb₀ :: hb) ρ λ ρ'=>M.pure (.next ρ'))) (afterH K)
theorem SI.back{e:Addr}{oe:Obj}(hh:c.A.handled=none)(J:SI g c sc φ₀ nw₀ s ρ φ nw H m s'){nw2:Nw}{φ2:Ph}{H2:Hp}{ρ2:Lo}{m2:PySem.Str→Option Value}{s2:Shared}
  (J5:SI g {c with A:=c.A.mark (some (.ref e))} sc φ₀ ((e,oe)::nw₀) s ρ2 φ2 nw2 H2 m2 s2):SI g c sc φ₀ nw₀ s ρ2 φ2 nw2 H2 m2 s2:=
 {S:={F:=J5.S.F,N:=J5.S.N,C:=J5.S.C,fo:=J5.S.fo,ho:=.inl hh},O:={J5.O with},x:=(ext_sub λ _ h=>.tail _ h).trans J5.x,u:=J5.u,f0:=J.f0,o0:=J.o0,lo:=J5.lo,
  off:=J.off,inj:=J5.inj,alive:=J5.alive,has:=J5.has,kc:=J5.kc}
theorem handler_here(kx:KX g.K)(Z:StOk g k n)(hcH:CallOk true g callH k)(fx:Fx g c)(bf:BudX hd c X k)(hhd:c.A.handled=none)(J:SI g c sc φ₀ nw₀ s₀ ρ φ nw H m s){φ1:Ph}{nw1:Nw}{H1:Hp}{s1:Shared}{cn:PySem.Str}{np hpos:Pos}{e:Addr}{hb₀:Stmt}{hb:List Stmt}
  (h2:sc.names.lookup cn=some .globalImplicit) (h3:globV g.K cn=some (.sta (.ref 80)))
  (S1:St g c m φ1 nw1 H1 s1) (x1:Ext φ nw φ1 nw1) (F1:Fly c.b₀ c.L nw1 e (.ref 80) s1.heap) (u1:Upto s s1) (h:Run (hRun g callH n sc hb₀ hb ρ K H1) P X) :
  wpAny (model g.prog g.w) c.A (noteFrame (.ref e) c.env₀) (λ _ s₂=>wpAny (model g.prog g.w) c.A (setFlight (.ref e) none) (λ _ s₃=>
   wpAny (model g.prog g.w) c.A (handleBy (.ref e) c.env₀ [.ExceptHandler (some (.Name cn np)) none (hb₀ :: hb) hpos]) (SPost g c sc φ₀ nw₀ s₀ K P X) (SX g c φ₀ nw₀ s₀ X) s₃) (SX g c φ₀ nw₀ s₀ X) s₂) (SX g c φ₀ nw₀ s₀ X) s1:=by
 refine catch_ok kx fx hhd J h2 h3 S1 x1 F1 u1 λ oe nw2 s2 x5 J5=>?_
 unfold hRun at h
 have h':=run_noexc h
 have fx':Fx g {c with A:=c.A.mark (some (.ref e))}:=⟨fx.X,fx.T,fx.fr,fx.hf,fx.hke⟩
 have bf':BudX true {c with A:=c.A.mark (some (.ref e))} (λ _ _=>False) k:=⟨bf.1,.inr ⟨rfl,λ _ _ h=>h⟩⟩
 refine wpAny_mono (Z.all (c:={c with A:=c.A.mark (some (.ref e))}) hcH hcH fx' bf' J5 h') (λ f s3 hf=>?_) λ u s3 hx=>?_
 ·cases f with
  | next=>
   refine byC λ nG=>?_
   obtain⟨ρ3,φ3,nw3,H3,m3,J3,q⟩:=hf
   refine nG ?_
   exact⟨ρ3,φ3,nw3,H3,m3,J.back hhd J3,q⟩
  | ret v=>
   refine byC λ nG=>?_
   obtain⟨φ3,nw3,H3,m3,w,S3,x3,u3,hv,q⟩:=hf
   refine nG ?_
   exact⟨φ3,nw3,H3,m3,w,{F:=S3.F,N:=S3.N,C:=S3.C,fo:=S3.fo,ho:=.inl hhd},(ext_sub λ _ h=>.tail _ h).trans x3,u3,hv,q⟩
  | _=>exact hf.elim
 ·obtain⟨_,_,_,_,_,_,_,_,_,_,z,_⟩:=hx
  exact z.elim
noncomputable def X1(g:G0)(callH:CallT)(n:Nat)(sc:Scope)(hb₀:Stmt)(hb:List Stmt)(ρ:Lo)(K:Lo→M Fl)(P:Fl→Hp→Prop)(X:Addr→Hp→Prop):Addr→Hp→Prop:=
 λ C h=>C=80∧Run (hRun g callH n sc hb₀ hb ρ K h) P X
theorem caught_px(kx:KX g.K)(Z:StOk g k n)(hcH:CallOk true g callH k)(fx:Fx g c)(bf:BudX hd c X k)(hhd:c.A.handled=none)(J:SI g c sc φ₀ nw₀ s₀ ρ φ nw H m s){cn:PySem.Str}{np hpos:Pos}{hb₀:Stmt}{hb:List Stmt}
  (h2:sc.names.lookup cn=some .globalImplicit) (h3:globV g.K cn=some (.sta (.ref 80))) {u:Value}{s1:Shared} (hp:PostX g c m φ nw (X1 g callH n sc hb₀ hb ρ K P X) s u s1) :
  wpAny (model g.prog g.w) c.A (noteFrame u c.env₀) (λ _ s₂=>wpAny (model g.prog g.w) c.A (setFlight u none) (λ _ s₃=>
   wpAny (model g.prog g.w) c.A (handleBy u c.env₀ [.ExceptHandler (some (.Name cn np)) none (hb₀ :: hb) hpos]) (SPost g c sc φ₀ nw₀ s₀ K P X) (SX g c φ₀ nw₀ s₀ X) s₃) (SX g c φ₀ nw₀ s₀ X) s₂) (SX g c φ₀ nw₀ s₀ X) s1:=by
 refine byC λ nG=>?_
 obtain⟨e,C,φ1,nw1,H1,rfl,S1,x1,F1,⟨rfl,q⟩,u1⟩:=hp
 refine nG ?_
 exact handler_here kx Z hcH fx bf hhd J h2 h3 S1 x1 F1 u1 q
theorem try_assign(kx:KX g.K)(Z:StOk g k n)(hc:CallOk false g call k)(hcH:CallOk true g callH k)(fx:Fx g c)(bf:BudX false c X k)(hhd:c.A.handled=none)(J:SI g c sc φ₀ nw₀ s₀ ρ φ nw H m s){cn:PySem.Str}{np hpos ap pos:Pos}{hb₀:Stmt}{hb:List Stmt}{t value:Expr}
  (h2:sc.names.lookup cn=some .globalImplicit) (h3:globV g.K cn=some (.sta (.ref 80))) (ho:okSwap value=true)
  (h:Run (evE g.K call n sc ρ value H) (λ v h=>Run (M.bind (noexc (asg g.K call n sc t v ρ λ ρ'=>M.pure (.next ρ'))) (λ fl=>match fl with | .next ρ'=>K ρ' | .ret _=>no) h) P X) (X1 g callH n sc hb₀ hb ρ K P X)) :
  wpAny (model g.prog g.w) c.A (exec (.Try [.Assign [t] value ap] [.ExceptHandler (some (.Name cn np)) none (hb₀ :: hb) hpos] [] [] pos) c.env₀) (SPost g c sc φ₀ nw₀ s₀ K P X) (SX g c φ₀ nw₀ s₀ X) s:=by
 refine wpAny_Try_except (wpAny_execs_cons ?_)
 have bf1:BudX false c (X1 g callH n sc hb₀ hb ρ K P X) k:=⟨bf.1,.inl ⟨rfl,hhd⟩⟩
 have bf0:BudX false c (λ _ _=>False) k:=⟨bf.1,.inl ⟨rfl,hhd⟩⟩
 have h':Run (evE g.K call n sc ρ value H) (λ v h=>Run (asg g.K call n sc t v ρ (λ ρ'=>M.pure (.next ρ')) h) (λ fl h=>Run ((match fl with | .next ρ'=>K ρ' | .ret _=>no:M Fl) h) P X) (λ _ _=>False)) (X1 g callH n sc hb₀ hb ρ K P X):=
  h
 refine wpAny_mono (Assign_sound (pos:=ap) (E:=λ u s1=>wpAny (model g.prog g.w) c.A (noteFrame u c.env₀) (λ _ s₂=>wpAny (model g.prog g.w) c.A (setFlight u none) (λ _ s₃=>
   wpAny (model g.prog g.w) c.A (handleBy u c.env₀ [.ExceptHandler (some (.Name cn np)) none (hb₀ :: hb) hpos]) (SPost g c sc φ₀ nw₀ s₀ K P X) (SX g c φ₀ nw₀ s₀ X) s₃) (SX g c φ₀ nw₀ s₀ X) s₂) (SX g c φ₀ nw₀ s₀ X) s1)
  hc fx bf1 bf0 J ho (λ u s' q=>caught_px kx Z hcH fx bf hhd J h2 h3 q) (λ u s' q=>?_) h') (λ f s3 hf=>?_) λ _ _ z=>z
 ·obtain⟨_,_,_,_,_,_,_,_,_,_,z,_⟩:=q
  exact z.elim
 ·cases f with
  | next=>
   obtain⟨ρ3,φ3,nw3,H3,m3,J3,q⟩:=hf
   exact wpAny_execs_nil (wpAny_execs_nil ⟨ρ3,φ3,nw3,H3,m3,J3,q⟩)
  | ret v=>
   refine byC λ nG=>?_
   obtain⟨φ3,nw3,H3,m3,w,S3,x3,u3,hv,q⟩:=hf
   refine nG ?_
   exact q.elim
  | _=>exact hf.elim
theorem try_expr(kx:KX g.K)(Z:StOk g k n)(hc:CallOk false g call k)(hcH:CallOk true g callH k)(fx:Fx g c)(bf:BudX false c X k)(hhd:c.A.handled=none)(J:SI g c sc φ₀ nw₀ s₀ ρ φ nw H m s){cn:PySem.Str}{np hpos ep rp pos cp:Pos}{kd:Nat}{hb₀:Stmt}{hb:List Stmt}{value:Expr}{b:Bool}
  (h2:sc.names.lookup cn=some .globalImplicit) (h3:globV g.K cn=some (.sta (.ref 80))) (ho:isComp value=false)
  (h:Run (evE g.K call n sc ρ value H) (λ _ h=>P (.ret (.bool b)) h) (X1 g callH n sc hb₀ hb ρ K P X)) :
  wpAny (model g.prog g.w) c.A (exec (.Try [.Expr value ep,.Return (some (.Constant (.bool b) kd cp)) rp] [.ExceptHandler (some (.Name cn np)) none (hb₀ :: hb) hpos] [] [] pos) c.env₀) (SPost g c sc φ₀ nw₀ s₀ K P X) (SX g c φ₀ nw₀ s₀ X) s:=by
 refine wpAny_Try_except (wpAny_execs_cons ?_)
 have bf1:BudX false c (X1 g callH n sc hb₀ hb ρ K P X) k:=⟨bf.1,.inl ⟨rfl,hhd⟩⟩
 have bf0:BudX false c (λ _ _=>False) k:=⟨bf.1,.inl ⟨rfl,hhd⟩⟩
 have Y:=sound_all hc n
 refine wpAny_Expr_any (wpAny_mono (Y.E fx bf1 J.S J.O h) (λ u s1 q=>?_) λ u s1 q=>caught_px kx Z hcH fx bf hhd J h2 h3 q) (interactive_no J) (swaps_not ho)
 obtain⟨φ1,nw1,H1,v,S1,x1,hv,hP,u1⟩:=q
 have J1:=J.step S1 x1 u1
 refine wpAny_execs_cons (wpAny_Return_some ?_)
 cases n with
 | zero=>exact h.elim
 | succ n=>
 have hr:Run (evE g.K call (n+1) sc ρ (.Constant (.bool b) kd cp) H1) (λ v h=>P (.ret v) h) (λ _ _=>False):=hP
 refine wpAny_mono (Y.E fx bf0 J1.S J1.O hr) (λ u s2 q=>?_) λ u s2 q=>?_
 ·obtain⟨φ2,nw2,H2,v2,S2,x2,hv2,hP2,u2⟩:=q
  have J2:=J1.step S2 x2 u2
  exact⟨φ2,nw2,H2,m,v2,J2.S,J2.x,J2.u,hv2,hP2⟩
 ·obtain⟨_,_,_,_,_,_,_,_,_,z,_⟩:=q
  exact z.elim
end
end VS.Internal
end
section
open PySem PySem.W PySem.Calls PyProof.Rows PySem.SeqAt
set_option backward.match.sparseCases false
set_option maxRecDepth 100000
namespace VS.Internal
section
variable{g:G0}{call callH:CallT}{hd:Bool}{k n:Nat}{c:Cx}{sc:Scope}{ρ:Lo}{m:PySem.Str→Option Value}{φ φ₀ φ':Ph}{nw nw₀ nw':Nw}{H H':Hp}{s s₀ s':Shared}{X:Addr→Hp→Prop}{P:Fl→Hp→Prop}{K:Lo→M Fl}
theorem run_X1{v:R V}{hb₀:Stmt}{hb:List Stmt}{r:V→Hp→R Fl}
  (h:Run (v.then r λ c' h'=>if c'=80 then hRun g callH n sc hb₀ hb ρ K h' else .no) P X) :
  Run v (λ v h'=>Run (r v h') P X) (X1 g callH n sc hb₀ hb ρ K P X):=by
 refine Run.mono (r:=v) h (λ _ _ q=>q) λ c' h' q=>?_
 have q:Run (if c'=80 then hRun g callH n sc hb₀ hb ρ K h' else .no) P X:=q
 by_cases e:c'=80
 ·rw [if_pos e] at q;exact⟨e,q⟩
 ·rw [if_neg e] at q;exact q.elim
theorem st_try(kx:KX g.K)(Z:StOk g k n)(hc:CallOk hd g call k)(hcH:CallOk true g callH k)(fx:Fx g c)(bf:BudX hd c X k)(J:SI g c sc φ₀ nw₀ s₀ ρ φ nw H m s){body:List Stmt}{hs:List ExceptHandler}{oe fi:List Stmt}{pos:Pos}
  (h:Run (evS g.K hd call callH (n+1) sc (.Try body hs oe fi pos) ρ K H) P X):wpAny (model g.prog g.w) c.A (exec (.Try body hs oe fi pos) c.env₀) (SPost g c sc φ₀ nw₀ s₀ K P X) (SX g c φ₀ nw₀ s₀ X) s:=by
 refine byC λ nG=>?_
 obtain⟨hb,h0⟩:=rNoB h
 clear h
 obtain⟨hb,h3⟩:=Bool.or_eq_false_iff.mp hb
 obtain⟨h1,h2⟩:=Bool.or_eq_false_iff.mp hb
 subst h1
 obtain rfl:oe=[]:=List.isEmpty_iff.mp (nbF h2)
 obtain rfl:fi=[]:=List.isEmpty_iff.mp (nbF h3)
 clear h2 h3 hb
 obtain⟨p,e,h4⟩:=onSome_is h0
 obtain⟨h1,h5⟩:=rIf h4
 clear h0 h4
 obtain⟨np,hpos,rfl⟩:=tryH_is e
 clear e
 obtain⟨h2,h3⟩:=is80_is h1
 have hhd:c.A.handled=none:=bf.2.elim And.right λ q=>absurd q.1 Bool.false_ne_true
 obtain⟨b,e,h6⟩:=onSome_is h5
 clear h5
 cases consL_is e
 refine nG ?_
 refine run_elim (o:=asgPart b.1) h6 (λ _ h=>?_) λ q e h=>?_
 ·refine byC λ nG=>?_
  obtain⟨value,e1,h7⟩:=onSome_is h
  obtain⟨ep,e1⟩:=expPart_is e1
  obtain⟨r,e2,h8⟩:=onSome_is h7
  obtain⟨x,e3,h9⟩:=onSome_is h8
  obtain⟨kd,cp,rp,rfl⟩:=retPart_is e3
  have h4:=run_X1 (g:=g) (callH:=callH) (n:=n) (hb₀:=p.2.1) (hb:=p.2.2) (K:=K) h9
  refine nG ?_
  rw [e1,oneL_is e2]
  refine bC (isComp value) (λ hok=>by rw [hok] at h4;exact h4.elim) λ hok=>?_
  rw [hok] at h4
  exact try_expr kx Z hc hcH fx bf hhd J h2 h3 hok h4
 ·obtain⟨ap,e⟩:=asgPart_is e
  have h4:=run_X1 (g:=g) (callH:=callH) (n:=n) (hb₀:=p.2.1) (hb:=p.2.2) (K:=K) h
  refine bC (okSwap q.2&&b.2.isEmpty) (λ hok=>?_) λ hok=>by rw [hok] at h4;exact h4.elim
  rw [hok] at h4
  obtain⟨ho,hr⟩:=(Bool.and_eq_true _ _).mp hok
  rw [e,List.isEmpty_iff.mp hr]
  exact try_assign kx Z hc hcH fx bf hhd J h2 h3 ho h4
theorem st_ok(kx:KX g.K)(hR:RaiseOk g k)(n:Nat):StOk g k n:=by
 induction n with
 | zero=>exact⟨λ _ _ _ _ _ h=>h.elim,λ _ _ _ _ _ h=>h.elim⟩
 | succ n Z=>
  constructor
  ·intro hd call callH c sc φ₀ nw₀ s₀ ρ φ nw H m s st K P X hc hcH fx bf J h
   refine bC (isTry st) (λ ht=>?_) λ ht=>st_simple Z hR hc hcH fx bf J ht h
   revert h
   exact PySem.Stmt.Try.elim st (Nat.eq_of_beq_eq_true ht) λ _ _ _ _ _ h=>st_try kx Z hc hcH fx bf J h
  ·intro hd call callH c sc φ₀ nw₀ s₀ ρ φ nw H m s ss K P X hc hcH fx bf J h
   cases ss with
   | nil=>exact wpAny_execs_nil ⟨ρ,φ,nw,H,m,J,h⟩
   | cons st ss=>
    have h':Run (evS g.K hd call callH n sc st ρ (λ ρ'=>evSs g.K hd call callH n sc ss ρ' K) H) P X:=h
    refine wpAny_execs_cons (wpAny_mono (Z.one hc hcH fx bf J h') (λ f s1 hf=>?_) λ _ _ z=>z)
    cases f with
    | next=>
     obtain⟨ρ1,φ1,nw1,H1,m1,J1,h1⟩:=hf
     exact Z.all hc hcH fx bf J1 h1
    | ret v=>exact hf
    | _=>exact hf.elim
end
end VS.Internal
end
section
open PySem PySem.W PySem.Calls PyProof.Rows PySem.SeqAt
set_option backward.match.sparseCases false
set_option maxRecDepth 100000
namespace VS.Internal
theorem cells_mem{x:PySem.Str}(names:List (PySem.Str × NameKind)):∀(k:Nat) (acc:List (PySem.Str × Addr)),(x∈acc.map (·.1)∨(x,NameKind.cell)∈names)→x∈(cellsFrom k names acc).map (·.1):=by
 induction names with
 | nil=>exact λ _ _ h=>h.elim id λ q=>nomatch q
 | cons p r ih=>
  intro k acc h
  obtain⟨name,kind⟩:=p
  unfold cellsFrom
  by_cases hk:kind = .cell
  ·rw [if_pos (beq_iff_eq.mpr hk)]
   exact ih _ _ (h.elim (λ h=>.inl (.tail _ h)) λ h=>(List.mem_cons.mp h).elim (λ q=>.inl ((Prod.mk.inj q).1▸.head _)) .inr)
  ·rw [if_neg λ q=>hk (beq_iff_eq.mp q)]
   exact ih _ _ (h.elim .inl λ h=>(List.mem_cons.mp h).elim (λ q=>absurd (Prod.mk.inj q).2.symm hk) .inr)
theorem pw_inj{x y:PySem.Str}{cc:Addr}{cs:List (PySem.Str × Addr)}:cs.Pairwise (λ x y=>x.2≠y.2)→(x,cc)∈cs→(y,cc)∈cs→x=y:=by
 induction cs with
 | nil=>exact λ _ h=>nomatch h
 | cons p r ih=>
  intro h hx hy
  rw [List.pairwise_cons] at h
  rcases List.mem_cons.mp hx with q | hx
  ·rcases List.mem_cons.mp hy with q' | hy
   ·exact(congrArg Prod.fst q).trans (congrArg Prod.fst q').symm
   ·exact absurd (by rw [←q]) (h.1 _ hy)
  ·rcases List.mem_cons.mp hy with q' | hy
   ·exact absurd (by rw [←q']) (h.1 _ hx)
   ·exact ih h.2 hx hy
section
variable{g:G0}{c:Cx}{m:PySem.Str→Option Value}{φ:Ph}{nw:Nw}{H:Hp}{s:Shared}{n:Nat}
theorem enter_core{A:Around}{outer:List Env}{b₀:Heap}{a:Addr}{oc:Value}{od:Option Addr}{fd:FuncData}{osl:Array (Option Value)}{body:List Stmt}{vs:List V}{us:List Value}{kws:List (PySem.Str × V)}{kus:List (PySem.Str × Value)}{ds:List V}{dus:List Value}{R:Result→Shared→Prop}
  (hroom:A.depth<recursionLimit) (X:g.K.In s.heap) (nl:s.heap.NoLimit) (hK:g.K.lookup a=some ⟨oc,od,.func fd,osl⟩) (F:OkFn g.K fd) (hb:fd.body = .stmts body) (hdus:VRs g.K φ nw ds dus)
  (hdr:∀{A:Around}{E:Value→Shared→Prop}{Q:Option (Array Value)→Shared→Prop},(∀ r,(r.getD #[]).toList=dus→Q r s)→wpAny (model g.prog g.w) A (seqItems? fd.defaults) Q E s)
  (hv:VRs g.K φ nw vs us) (hk:KRs g.K φ nw kws kus) (hl:vs.length≤(pn fd).length) (hdl:ds.length≤(pn fd).length) (hkw:okKw (pn fd) ((pn fd).take vs.length) (kws.map (·.1))=true)
  (hm:((pn fd).take ((pn fd).length-ds.length)).all (λ n=>(((pn fd).zip vs++kws).lookup n).isSome)=true)
  (fx:Fx g (cxOf A outer b₀ fd a s.heap.objs.size)) (kp:∀ b o,b₀.get? b=some o→s.heap.get? b=some o) (ab:b₀.objs.size≤s.heap.objs.size)
  (hB:∀ p∈nw,s.heap.get? p.1=some p.2∧b₀.get? p.1=none) (hC:Conc g.K φ nw H) (fo:FrsOk φ nw outer) (ho:HOk A φ nw)
  (h:∀ m' nw' s',SI g (cxOf A outer b₀ fd a s.heap.objs.size) fd.scope φ nw s (bindP (pn fd) vs kws ds) φ nw' H m' s'→wpAny (model g.prog g.w) (A.deeper (calleeE fd a s.heap.objs.size)) (execs body (calleeE fd a s.heap.objs.size)) (λ f s'=>R (.ok (.ret (retV f))) s')
    (λ e s'=>wpAny (model g.prog g.w) (A.deeper (calleeE fd a s.heap.objs.size)) (leaving (calleeE fd a s.heap.objs.size) e) (λ _ s''=>R (.error e) s'') (λ e' s''=>R (.error e') s'') s') s') :
  codeAny (model g.prog g.w) A (.call (.ref a) ⟨us,kus⟩) R s:=by
 have hbind:=KRs.bind (ns:=pn fd) hv hk hdus
 have hkeys:((bindP (pn fd) us kus dus).map (·.1)).Sublist (pn fd):=bind_keys _ _ _ _
 have hnd:=hkeys.nodup F.nd
 refine codeAny_call_function hroom (X _ _ hK) rfl F.co F.ge hb (codeRec_of X F.cd) (bindArgs_ok (dus:=dus) F.po F.va F.ko F.kw hdr (by rw [hv.length];exact hl) (by rw [hdus.length];exact hdl) (by rw [hv.length,hk.keys];exact hkw) ?_ ?_)
 ·rw [hdus.length]
  refine List.all_eq_true.mpr λ x hx=>?_
  have:=List.all_eq_true.mp hm x hx
  have q:=((KRs.zip (ns:=pn fd) hv).append hk).isNone (n:=x)
  rw [←Option.not_isNone] at this ⊢
  exact(congrArg not q).trans this
 ·rw [F.cl,F.gl,F.bu]
  have hcl0:∀ k,(cellsFrom k fd.scope.names []).map (·.1)=(cellsFrom 0 fd.scope.names []).map (·.1):=λ k=>cellsFrom_names fd.scope.names k 0 [] [] rfl
  refine wpAny_newFunctionEnv_cells F.ki (λ x hx=>?_) λ env' he s' xc=>?_
  ·rcases F.nm x.1 (hkeys.subset (List.mem_map_of_mem hx)) with q | ⟨q1,q2⟩
   ·exact .inl q
   ·exact .inr ⟨q1,lookup_isSome_of_mem (by rw [hcl0];exact q2)⟩
  ·subst he
   have hk₁:=xc.toInCall.keep
   have cell:∀ y cc,(clf fd s.heap.objs.size).lookup y=some cc→_:=xc.cell
   have above:∀ y cc,(y,cc)∈clf fd s.heap.objs.size→_:=xc.above
   have apart:(clf fd s.heap.objs.size).Pairwise _:=xc.apart
   refine byC λ nG=>?_
   obtain⟨h₁,tk,rfl,_⟩:=xc.done
   refine nG ?_
   refine⟨nl.keeps hk₁,codeAny_func ?_⟩
   have b0n:∀ b,s.heap.objs.size≤b→b₀.get? b=none:=λ b hb=>oC (b₀.get? b) id λ o e=>absurd (Nat.lt_of_lt_of_le (Heap.lt_size e) (Nat.le_trans ab hb)) (Nat.lt_irrefl _)
   have hnot:∀ b,s.heap.objs.size≤b→b∉mutA φ:=λ b hb q=>(hC.owned q).elim λ o ho=>absurd (Heap.lt_size (hB _ ho).1) (Nat.not_lt.mpr hb)
   have inC:∀{q:PySem.Str × Addr}{o:Obj},q∈clf fd s.heap.objs.size→h₁.get? q.2=some o→(q.2,o)∈cellNw h₁ (clf fd s.heap.objs.size)++nw:=λ{q o} hq ho=>List.mem_append_left _ (List.mem_filterMap.mpr ⟨q,hq,by rw [ho];rfl⟩)
   have N':News b₀ s.heap.objs.size h₁ (cellNw h₁ (clf fd s.heap.objs.size)++nw):=λ p hp=>by
    rcases List.mem_append.mp hp with hp | hp
    ·refine(List.mem_filterMap.mp hp).elim λ q hq=>map_is hq.2 λ o ho e=>?_
     subst e
     have:=above q.1 q.2 hq.1
     exact⟨ho,Nat.ne_of_gt this,b0n _ (Nat.le_of_lt this)⟩
    ·have q:=hB p hp
     exact⟨hk₁ _ _ q.1,Nat.ne_of_lt (Heap.lt_size q.1),q.2⟩
   have x:=ext_sub (φ:=φ) λ p (hp:p∈nw)=>List.mem_append_right (cellNw h₁ (clf fd s.heap.objs.size)) hp
   have S':St g (cxOf A outer b₀ fd a s.heap.objs.size) _ φ _ H {s with heap:=h₁,toks:=tk}:=
    ⟨⟨xc.toInCall.ns,λ b o e=>hk₁ _ _ (kp b o e),ab⟩,N',hC.sub λ p hp=>List.mem_append_right _ hp,fo.mono x.s,ho.mono x.s⟩
   have O':EnvOk g (cxOf A outer b₀ fd a s.heap.objs.size) (calleeE fd a s.heap.objs.size) fd.scope (bindP (pn fd) vs kws ds) (bindL (calleeE fd a s.heap.objs.size).kindOf (bindP (pn fd) us kus dus) λ _=>none) φ (cellNw h₁ (clf fd s.heap.objs.size)++nw):=by
    refine⟨F.ki,rfl,rfl,rfl,λ _ q=>q,λ _ q=>q,λ y hy=>hy.elim .inl λ hy=>absurd rfl (F.fr _ (mem_of_lookup hy)),.inl ⟨rfl,λ y v hy hlk=>?_⟩,λ y v hy hlk=>?_⟩
    ·exact(hbind.get hlk).imp λ u q=>⟨bindL_at _ _ _ _ _ hnd q.1 hy,VR.mono x.s _ _ q.2⟩
    ·rcases hy with hy | hy
     ·refine byC λ nG=>?_
      obtain⟨u,hu,hvr⟩:=hbind.get hlk
      have hmem:=hkeys.subset (List.mem_map_of_mem hu)
      have hin:y∈(clf fd s.heap.objs.size).map (·.1):=(F.nm y hmem).elim (λ q=>nomatch hy.symm.trans q) λ q=>(hcl0 _).symm▸q.2
      obtain⟨cc,hcc⟩:=Option.isSome_iff_exists.mp (lookup_isSome_of_mem hin)
      obtain⟨o,ho,hod⟩:=cell y cc hcc
      replace hod:o.data = .cell (bindC (calleeE fd a s.heap.objs.size).kindOf (bindP (pn fd) us kus dus) (λ _=>none) y):=hod
      rw [bindC_at _ _ _ y u hnd hu (by show fd.scope.names.lookup y≠_;rw [hy];simp)] at hod
      have hmm:=mem_of_lookup hcc
      exact nG ⟨cc,o,u,hcc,inC hmm ho,hnot cc (Nat.le_of_lt (above y cc hmm)),hod,VR.mono x.s _ _ hvr⟩
     ·exact absurd rfl (F.fr _ (mem_of_lookup hy))
   have cin:∀ y cc,(calleeE fd a s.heap.objs.size).cells.lookup y=some cc→(y,cc)∈clf fd s.heap.objs.size:=λ y cc hc=>mem_of_lookup hc
   exact h _ _ _
    {S:=S',O:=O',x:=x
     u:=⟨h₁,tk,rfl⟩
     f0:=fo
     o0:=ho,lo:=rfl
     off:=λ y cc hc p hp q=>Nat.lt_irrefl cc (Nat.lt_trans (q▸Heap.lt_size (hB p hp).1) (above y cc (cin y cc hc)))
     inj:=λ y z cc hy hz=>pw_inj apart (cin y cc hy) (cin z cc hz)
     alive:=λ y cc hc=>(cell y cc hc).elim λ o q=>⟨o,_,inC (cin y cc hc) q.1,hnot cc (Nat.le_of_lt (above y cc (cin y cc hc))),q.2⟩
     has:=λ y hy=>Option.isSome_iff_exists.mp (lookup_isSome_of_mem (cells_mem _ _ _ (.inr (mem_of_lookup hy))))
     kc:=λ y hy=>hy}
theorem enter_any{a:Addr}{oc:Value}{od:Option Addr}{fd:FuncData}{osl:Array (Option Value)}{body:List Stmt}{vs:List V}{us:List Value}{kws:List (PySem.Str × V)}{kus:List (PySem.Str × Value)}{ds:List V}{R:Result→Shared→Prop}
  (fx:Fx g c) (hroom:c.A.depth<recursionLimit) (S:St g c m φ nw H s) (hK:g.K.lookup a=some ⟨oc,od,.func fd,osl⟩) (F:OkFn g.K fd) (hb:fd.body = .stmts body) (hD:∃ dus,VRs g.K φ nw ds dus∧∀{A:Around}{E:Value→Shared→Prop}{Q:Option (Array Value)→Shared→Prop},(∀ r,(r.getD #[]).toList=dus→Q r s)→wpAny (model g.prog g.w) A (seqItems? fd.defaults) Q E s)
  (hv:VRs g.K φ nw vs us) (hk:KRs g.K φ nw kws kus) (hl:vs.length≤(pn fd).length) (hdl:ds.length≤(pn fd).length)
  (hkw:okKw (pn fd) ((pn fd).take vs.length) (kws.map (·.1))=true)
  (hm:((pn fd).take ((pn fd).length-ds.length)).all (λ n=>(((pn fd).zip vs++kws).lookup n).isSome)=true)
  (h:∀ L' m' nw' s' oL,Fx g (calleeC c (calleeE fd a L') L')→SI g (calleeC c (calleeE fd a L') L') fd.scope φ ((c.L,oL)::nw) s (bindP (pn fd) vs kws ds) φ nw' H m' s'→
   ObjNs oL m→(∀ p∈(c.L,oL)::nw,p.1<L')→s.heap.objs.size=L'→
   wpAny (model g.prog g.w) (c.A.deeper (calleeE fd a L')) (execs body (calleeE fd a L')) (λ f s'=>R (.ok (.ret (retV f))) s')
    (λ e s'=>wpAny (model g.prog g.w) (c.A.deeper (calleeE fd a L')) (leaving (calleeE fd a L') e) (λ _ s''=>R (.error e) s'') (λ e' s''=>R (.error e') s'') s') s') :
  codeAny (model g.prog g.w) c.A (.call (.ref a) ⟨us,kus⟩) R s:=by
 refine byC λ nG=>?_
 obtain⟨dus,hdus,hdr⟩:=hD
 obtain⟨oL,esL,epL,hoL,hdL,hkL,hfL⟩:=S.F.ns
 refine nG ?_
 have hLlt:c.L<s.heap.objs.size:=Heap.lt_size hoL
 have hLm:c.L∉mutA φ:=λ q=>(S.C.owned q).elim λ o ho=>(S.N _ ho).2.1 rfl
 have x1:ExtS φ nw φ ((c.L,oL)::nw):=(ext_sub λ _ h=>.tail _ h).s
 have fx':Fx g (calleeC c (calleeE fd a s.heap.objs.size) s.heap.objs.size):=⟨fx.X,fx.T,by show c.A.frames.map _=_;rw [fx.fr];rfl,rfl,F.ki⟩
 have hB:∀ p∈(c.L,oL)::nw,s.heap.get? p.1=some p.2∧c.b₀.get? p.1=none:=λ p hp=>by
  rcases List.mem_cons.mp hp with rfl | hp
  ·exact⟨hoL,oC (c.b₀.get? c.L) id λ o e=>absurd (Nat.lt_of_lt_of_le (Heap.lt_size e) S.F.above) (Nat.lt_irrefl _)⟩
  ·exact⟨(S.N p hp).1,(S.N p hp).2.2⟩
 refine enter_core (A:=c.A) (outer:=c.env₀ :: c.outer) (b₀:=c.b₀) (nw:=(c.L,oL)::nw) (φ:=φ) (H:=H) hroom (S.in fx) (fx.T.nolimit.keeps S.F.keep) hK F hb (VRs.mono x1 _ _ hdus) hdr (VRs.mono x1 _ _ hv) (KRs.mono x1 _ _ hk) hl hdl hkw hm fx' S.F.keep
  (Nat.le_trans S.F.above (Nat.le_of_lt hLlt)) hB (S.C.sub λ _ h=>.tail _ h) (λ env he=>?_) (S.ho.mono x1) λ m' nw' s' J=>h s.heap.objs.size m' nw' s' oL fx' J ⟨esL,epL,hdL,hkL,hfL⟩ (λ p hp=>Heap.lt_size (hB p hp).1) rfl
 rcases List.mem_cons.mp he with rfl | he
 ·exact⟨by rw [fx.hke];decide,c.L,oL,esL,epL,fx.hf,.head _,hLm,hdL⟩
 ·exact(S.fo.mono x1) env he
theorem enter_si{a:Addr}{oc:Value}{od:Option Addr}{fd:FuncData}{osl:Array (Option Value)}{body:List Stmt}{vs:List V}{us:List Value}{kws:List (PySem.Str × V)}{kus:List (PySem.Str × Value)}{ds:List V}{R:Result→Shared→Prop}
  (fx:Fx g c) (bc:BudC c.A (n+1)) (S:St g c m φ nw H s) (hK:g.K.lookup a=some ⟨oc,od,.func fd,osl⟩) (F:OkFn g.K fd) (hb:fd.body = .stmts body) (hds:dfltK g.K fd.defaults=some ds)
  (hv:VRs g.K φ nw vs us) (hk:KRs g.K φ nw kws kus) (hl:vs.length≤(pn fd).length) (hdl:ds.length≤(pn fd).length)
  (hkw:okKw (pn fd) ((pn fd).take vs.length) (kws.map (·.1))=true)
  (hm:((pn fd).take ((pn fd).length-ds.length)).all (λ n=>(((pn fd).zip vs++kws).lookup n).isSome)=true)
  (h:∀ L' m' nw' s' oL,Fx g (calleeC c (calleeE fd a L') L')→BudF (c.A.deeper (calleeE fd a L')) n→SI g (calleeC c (calleeE fd a L') L') fd.scope φ ((c.L,oL)::nw) s (bindP (pn fd) vs kws ds) φ nw' H m' s'→
   ObjNs oL m→(∀ p∈(c.L,oL)::nw,p.1<L')→s.heap.objs.size=L'→
   wpAny (model g.prog g.w) (c.A.deeper (calleeE fd a L')) (execs body (calleeE fd a L')) (λ f s'=>R (.ok (.ret (retV f))) s')
    (λ e s'=>wpAny (model g.prog g.w) (c.A.deeper (calleeE fd a L')) (leaving (calleeE fd a L') e) (λ _ s''=>R (.error e) s'') (λ e' s''=>R (.error e') s'') s') s') :
  codeAny (model g.prog g.w) c.A (.call (.ref a) ⟨us,kus⟩) R s:=by
 have X:=S.in fx
 have hb1:c.A.depth+10*(n+1)≤900:=bc.1
 have hb2:c.A.units+100*(n+1)≤9000:=bc.2
 have hroom:c.A.depth<recursionLimit:=bud3 hb1
 refine enter_any fx hroom S hK F hb ?_ hv hk hl hdl hkw hm λ L' m' nw' s' oL fx'=>h L' m' nw' s' oL fx' ⟨?_,?_⟩
 rotate_left
 ·exact bud1 hb1
 ·exact bud2 hb2
 exact dflt_seq S X hds
end
end VS.Internal
end
section
open PySem PySem.W PySem.Calls PyProof.Rows PySem.SeqAt
set_option backward.match.sparseCases false
set_option maxRecDepth 100000
namespace VS.Internal
section
variable{g:G0}{c:Cx}{m m2:PySem.Str→Option Value}{φ φ2:Ph}{nw nw2:Nw}{H H2:Hp}{s s2:Shared}{n:Nat}
theorem exit_st(S0:St g c m φ nw H s){env:Env}{L:Addr}{oL:Obj}(hns:ObjNs oL m)(S2:St g (calleeC c env L) m2 φ2 nw2 H2 s2)(x:Ext φ ((c.L,oL)::nw) φ2 nw2)(hLm:c.L∉mutA φ) :
  St g c m φ2 (ndrop nw2 c.L) H2 s2∧ExtV φ2 nw2 φ2 (ndrop nw2 c.L)∧Ext φ nw φ2 (ndrop nw2 c.L)∧(∃ o,(c.L,o)∈nw2):=by
 refine byC λ nG=>?_
 obtain⟨es,ep,hd,hk,hf⟩:=hns
 refine nG ?_
 obtain⟨o2,hI,hd2,hm2⟩:∃ o2,(c.L,o2)∈nw2∧o2.data = .dict es ep∧c.L∉mutA φ2:=by
  obtain⟨h1 | ⟨_,sl,h1⟩,h2⟩:=x.kx _ (.head _) hLm
  ·exact⟨oL,h1,hd,h2⟩
  ·exact⟨_,h1,hd,h2⟩
 have hn:¬ Val o2:=noV hd2 rfl
 have y:=extV_but S2 hI hn (nw':=ndrop nw2 c.L) λ p h q=>mem_ndrop h q
 have z:=ext_off ((ext_sub λ _ h=>.tail _ h).trans x) (λ p hp=>(S0.N p hp).2.1) (nw':=ndrop nw2 c.L) λ p h q=>mem_ndrop h q
 refine⟨{F:=⟨⟨o2,es,ep,(S2.N _ hI).1,hd2,hk,hf⟩,S2.F.keep,S0.F.above⟩,N:=λ p hp=>⟨(S2.N _ (of_ndrop hp).1).1,(of_ndrop hp).2,(S2.N _ (of_ndrop hp).1).2.2⟩,C:=S2.C.chgV y λ d hd ob h=>mem_ndrop h λ q=>hm2 (q▸hd),fo:=S0.fo.mono z.s,ho:=S0.ho.mono z.s},y,z,o2,hI⟩
theorem exit_x{env:Env}{L:Addr}(fx2:Fx g (calleeC c env L)){oL:Obj}{P:V→Hp→Prop}{X:Addr→Hp→Prop}(S0:St g c m φ nw H s)(hns:ObjNs oL m)(hLm:c.L∉mutA φ){u:Value}(h:SX g (calleeC c env L) φ ((c.L,oL)::nw) s X u s2){A:Around}(hA:A.frames=(calleeC c env L).A.frames)(henv:(calleeC c env L).env₀ = env) :
  wpAny (model g.prog g.w) A (leaving env u) (λ _ s''=>CallPost g c m φ nw P X s (.error u) s'') (λ e' s''=>CallPost g c m φ nw P X s (.error e') s'') s2:=by
 refine byC λ nG=>?_
 obtain⟨m2,e,C,φ1,nw1,H1,rfl,S1,x1,F1,hX,u1⟩:=h
 refine nG ?_
 refine wpAny_bind (note_sound fx2 S1 F1 hA λ h2 nw2 S2 x2 i2 F2=>?_)
 refine flight_sound fx2 S2 F2 λ h3 nw3 S3 x3 i3 F3=>?_
 refine byC λ nG=>?_
 obtain⟨Sx,y,z,o,ho⟩:=exit_st S0 hns S3 ((x1.trans x2).trans x3) hLm
 obtain⟨⟨oe,vs,T,oT,ts,k1,k2,k3,k4,k5,k6,k7,k8,k9,k10,k11,k12⟩,e0,eL,en⟩:=F3
 refine nG ?_
 exact⟨e,C,φ1,_,H1,rfl,Sx,z,⟨⟨oe,vs,k1,k2,k3,k4,.inr ⟨T,oT,ts,k5,k6,k7,.inl k8,k9,k10,λ q=>k12 _ ho q.symm,λ p hp=>k12 p (of_ndrop hp).1⟩⟩,e0,λ q=>en _ ho q.symm,λ p hp=>en p (of_ndrop hp).1⟩,hX,u1.trans ⟨h3,s2.toks,rfl⟩⟩
theorem funD_is{d:Data}{fd:FuncData}(h:funD d=some fd):d = .func fd:=by
 have hb:=of_part h
 revert h
 exact PySem.Data.func.elim d (Nat.eq_of_beq_eq_true hb) λ f h=>congrArg Data.func (Option.some.inj h)
theorem bodyS_is{fd:FuncData}{b:List Stmt}(h:bodyS fd=some b):fd.body = .stmts b:=by
 unfold bodyS at h
 cases e:fd.body with
 | stmts c=>rw [e] at h;exact congrArg FuncBody.stmts (Option.some.inj h)
 | expr=>rw [e] at h;exact no_some h
inductive OKC(K:Frag)(fd:FuncData)(vs:List V)(kws:List (PySem.Str × V))(ds:List V):Prop
 | mk (k1:okFn K fd=true) (k2:vs.length≤(pn fd).length) (k3:ds.length≤(pn fd).length) (k4:okKw (pn fd) ((pn fd).take vs.length) (kws.map (·.1))=true) (k5:((pn fd).take ((pn fd).length-ds.length)).all (λ n=>(((pn fd).zip vs++kws).lookup n).isSome)=true)
theorem okCall_is{K:Frag}{fd:FuncData}{vs:List V}{kws:List (PySem.Str × V)}{ds:List V}(h:okCall K fd vs kws ds=true):OKC K fd vs kws ds:=by
 unfold okCall at h
 rw [Bool.and_eq_true,Bool.and_eq_true,Bool.and_eq_true,Bool.and_eq_true,decide_eq_true_eq,decide_eq_true_eq] at h
 exact⟨h.1.1.1.1,h.1.1.1.2,h.1.1.2,h.1.2,h.2⟩
theorem callF_ok(kx:KX g.K)(hR:∀ k,RaiseOk g k)(n:Nat):∀ hd,CallOk hd g (callF g.K n hd) n:=by
 induction n with
 | zero=>exact λ _ _ _ _ _ _ _ _ _ _ _ _ _ _ _ _ _ _ _ h=>h.elim
 | succ n ih=>
  intro hd c m φ nw H s f vs us kws kus P X fx bx S hv hk h
  refine byC λ nG=>?_
  obtain⟨o,e1,h1⟩:=onSome_is (o:=g.K.lookup f) h
  obtain⟨fd,e4,h2⟩:=onSome_is h1
  obtain⟨body,e2,h3⟩:=onSome_is h2
  obtain⟨ds,e3,h4⟩:=onSome_is h3
  obtain⟨hok,h5⟩:=rIf h4
  clear h h1 h2 h3 h4
  obtain⟨k1,k2,k3,k4,k5⟩:=okCall_is hok
  have e5:=e1.trans (congrArg some (obj_eq rfl rfl (funD_is e4)))
  have hLm:c.L∉mutA φ:=λ q=>(S.C.owned q).elim λ o ho=>(S.N _ ho).2.1 rfl
  refine nG (enter_si fx bx.1 S e5 (okFn_is k1) (bodyS_is e2) e3 hv hk k2 k3 k4 k5 λ L' m' nw' s' oL fx' bf' J hns _ _=>?_)
  refine wpAny_mono ((st_ok kx (hR n) 60).all (c:=calleeC c (calleeE fd f L') L') (ih hd) (ih true) fx' ⟨bf',bx.2⟩ J h5) (λ fl s2 hf=>?_) λ u s2 hx=>exit_x fx' S hns hLm hx rfl rfl
  cases fl with
  | next=>
   refine byC λ nG=>?_
   obtain⟨ρ3,φ3,nw3,H3,m3,J3,q⟩:=hf
   obtain⟨Sx,y,z,_⟩:=exit_st S hns J3.S J3.x hLm
   exact nG ⟨φ3,_,H3,.none,Sx,z,vr_none,q,J3.u⟩
  | ret v=>
   refine byC λ nG=>?_
   obtain⟨φ3,nw3,H3,m3,w,S3,x3,u3,hv3,q⟩:=hf
   obtain⟨Sx,y,z,_⟩:=exit_st S hns S3 x3 hLm
   exact nG ⟨φ3,_,H3,w,Sx,z,VR.monoV y _ _ hv3,q,u3⟩
  | _=>exact hf.elim
end
end VS.Internal
end
section
open PySem PySem.W PySem.Calls PyProof.Rows PySem.SeqAt
set_option backward.match.sparseCases false
set_option maxRecDepth 100000
namespace VS.Internal
section
variable{M:Model}{A:Around}{E:Value→Shared→Prop}{env:Env}
variable{nm q:PySem.Str}{C N:Addr}{bs bm:List Value}{hdct:Bool}{sn:List PySem.Str}{sub:List Value}{ab:Bool}{col:Option Bool}{dd:Option Addr}{k0 k1 k2 k3 k5:Option Value}{newId:String}
theorem raise_own{s:Shared}{x:Sem Value}{Q:Flow→Shared→Prop}(hbase:bm.contains (.type "BaseException")=true) (hh:A.handled=none)
  (h:wpAny M A x (λ v s₁=>∃ e oe t,v = .ref e∧s₁.heap.get? C=some (excClassObj nm q C N bs bm hdct sn sub ab col dd k0 k1 k2 k3 k5 newId)∧
   s₁.heap.get? e=some oe∧oe.cls = .ref C∧oe.data = .fields #[.ref t,.none,.none,.none,.bool false,.none]∧E (.ref e) s₁) E s) :
  wpAny M A (raiseStmt env (some x) none) Q E s:=by
 have hcB:(Value.ref C::bm).contains (.type "BaseException")=true:=by simp only [List.contains_cons,hbase,Bool.or_true]
 refine wpAny_bind (wpAny_mono h (λ v s₁ h₁=>?_) λ _ _ x=>x)
 refine byC λ nG=>?_
 obtain⟨e,⟨oc,od,oda,osl⟩,t,rfl,hC,he,hc,hd,hE⟩:=h₁
 refine nG ?_
 dsimp only at hc hd
 subst hc hd
 obtain⟨hp,g,d,tk,os⟩:=s₁
 repeat (first | with_reducible refine wpAny_loadPart_at he ?_ | with_reducible refine wpAny_loadPart_at hC ?_ | (with_reducible refine wpAny_isSubtype_exc hC ?_;rw [hcB]) | wp_step)
 exact wpAny_raiseNew_none hh hE
end
end VS.Internal
end
section
open PySem PySem.W PySem.Calls PyProof.Rows PySem.SeqAt
set_option backward.match.sparseCases false
set_option maxRecDepth 100000
namespace VS.Internal
structure KI(K:Frag):Prop where
 init:findIn K (.ref 80) "__init__" = some (some (.ref 40))
 fn:typeIn K (.ref 40)=some (.type "function")
 set:findIn K (.ref 80) "__setattr__" = some (some (.builtin "object.__setattr__"))
 tak:takerIn K 80 "reason" = some none
 dct:(clsIn K 80).any (λ cd=>cd.hasDict&&excTop cd.mro)=true
 obj:∃ oc od fd osl da dc dd ds dt dn dsl p1 p2 p3 p4,K.lookup 40=some ⟨oc,od,.func fd,osl⟩∧okFn K fd=true∧pn fd=[("self" : PySem.Str),("reason" : PySem.Str)]∧fd.defaults = .ref da∧
  K.lookup da=some ⟨dc,dd,.seq #[.str ds dt] dn,dsl⟩∧dc = .type "tuple"∧fd.body = .stmts [.Assign [.Attribute (.Name "self" p1) "reason" p2] (.Name "reason" p3) p4]∧fd.scope.names.lookup ("self" : PySem.Str)=some .local∧fd.scope.names.lookup ("reason" : PySem.Str)=some .local
section
variable{g:G0}{c:Cx}{sc:Scope}{ρ:Lo}{m:PySem.Str→Option Value}{φ φ₀:Ph}{nw nw₀:Nw}{H:Hp}{s s₀:Shared}
theorem SI.here(J:SI g c sc φ₀ nw₀ s₀ ρ φ nw H m s){x:PySem.Str}{v:V}{pos:Pos}{A:Around}{E:Value→Shared→Prop}{T:Value→Shared→Prop}(hk:sc.names.lookup x=some .local)(hv:lk x ρ=some v)(hdb:(x==("__debug__" : PySem.Str))=false)
  (q:∀ u,VR g.K φ nw v u→T u s):wpAny (model g.prog g.w) A (eval (.Name x pos) c.env₀) T E s:=by
 refine wpAny_Name ?_ hdb
 rcases J.O.loc with ⟨h1,h2⟩ | ⟨o,m₂,q1,_⟩
 ·obtain⟨u,e1,e2⟩:=h2 x v hk hv
  exact wpAny_loadName_local J.O.kind (J.O.scl x hk) (h1▸J.S.F.ns) e1 (q u e2)
 ·rw [J.lo] at q1
  exact absurd rfl (J.S.N _ q1).2.1
theorem init_body(ki:KI g.K)(fx:Fx g c)(J:SI g c sc φ₀ nw₀ s₀ ρ φ nw H m s){e:Addr}{oe:Obj}{vs:Array Value}{v:V}{p1 p2 p3 p4:Pos}{A:Around}{Q:Flow→Shared→Prop}{E:Value→Shared→Prop}
  (he:s.heap.get? e=some oe) (hc:oe.cls = .ref 80) (hdn:oe.dict=none) (hd:oe.data = .fields vs)
  (h1:sc.names.lookup ("self" : PySem.Str)=some .local) (h2:sc.names.lookup ("reason" : PySem.Str)=some .local) (l1:lk ("self" : PySem.Str) ρ=some (.sta (.ref e))) (l2:lk ("reason" : PySem.Str) ρ=some v)
  (hq:∀ h' tk,(∀ b ob,b≠e→s.heap.get? b=some ob→h'.get? b=some ob)→(∃ o',h'.get? e=some o'∧o'.cls = .ref 80∧o'.data = .fields vs)→Q .next {s with heap:=h',toks:=tk}) :
  wpAny (model g.prog g.w) A (execs [.Assign [.Attribute (.Name "self" p1) "reason" p2] (.Name "reason" p3) p4] c.env₀) Q E s:=by
 refine wpAny_execs_cons ?_
 dsimp only [exec_Assign]
 refine wpAny_bind (wpAny_standAt ?_)
 refine wpAny_bind ?_
 rw [show swapsWithSole [.Attribute (.Name "self" p1) "reason" p2] (.Name "reason" p3) p4.line c.env₀ = pure false from rfl]
 refine wpAny_pure ?_
 rw [if_neg Bool.false_ne_true]
 refine wpAny_bind (J.here h2 l2 (by decide) λ u hu=>?_)
 refine wpAny_bind ?_
 rw [show swappedStores [.Attribute (.Name "self" p1) "reason" p2] (.Name "reason" p3) c.env₀ = pure none from rfl]
 refine wpAny_pure ?_
 refine wpAny_bind ?_
 show wpAny _ _ (do
    let ov ←holding [u] (eval (.Name "self" p1) c.env₀)
    standAt p2.atName
    holding [u,ov] (setAttr ov "reason" u)
    release [u,ov] []) _ _ s
 refine wpAny_bind (wpAny_holding (J.here h1 l1 (by decide) λ w hw=>?_))
 obtain rfl:w = .ref e:=hw
 refine wpAny_bind (wpAny_standAt (wpAny_bind (wpAny_holding ?_)))
 refine exc_store (J.S.in fx) he hc hdn hd ki.set ki.tak ki.dct λ h' tk k1 k2=>?_
 exact wpAny_release' (wpAny_pure (wpAny_execs_nil (hq h' tk k1 k2)))
end
end VS.Internal
end
section
open PySem PySem.W PySem.Calls PyProof.Rows PySem.SeqAt
set_option backward.match.sparseCases false
set_option maxRecDepth 100000
namespace VS.Internal
section
variable{g:G0}{c:Cx}{sc:Scope}{ρ:Lo}{m:PySem.Str→Option Value}{φ φ₀:Ph}{nw nw₀:Nw}{H:Hp}{s s₀:Shared}
theorem init_call(ki:KI g.K)(fx:Fx g c)(hr:c.A.depth<recursionLimit)(S:St g c m φ nw H s){e t:Addr}{st:PySem.Str}{tk:Nat}{Q:Value→Shared→Prop}{E:Value→Shared→Prop}
  (he:s.heap.get? e=some {cls:=.ref 80,data:=.fields #[.ref t,.none,.none,.none,.bool false,.none]}) (eL:e≠c.L) (e0:c.b₀.get? e=none) (en:∀ p∈nw,p.1≠e)
  (hq:∀ s' nw3,St g c m φ nw3 H s'→Ext φ nw φ nw3→(∀ p∈nw3,p.1≠e)→(∃ o',s'.heap.get? e=some o'∧o'.cls = .ref 80∧o'.data = .fields #[.ref t,.none,.none,.none,.bool false,.none])→Upto s s'→Q .none s') :
  wpAny (model g.prog g.w) c.A (PySem.call (.ref 40) [.ref e,.str st tk] []) Q E s:=by
 refine byC λ nG=>?_
 obtain⟨oc,od,fd,osl,da,dc,dd,ds,dt,dn,dsl,p1,p2,p3,p4,hK,hok,hargs,hdf,hdt,rfl,hbody,hl1,hl2⟩:=ki.obj
 refine nG ?_
 have X:=S.in fx
 have hn:e∉mutA φ:=λ q=>by
  obtain⟨o,ho⟩:=S.C.owned q
  exact en _ ho rfl
 have S1:St g c m φ ((e,({cls:=.ref 80,data:=.fields #[.ref t,.none,.none,.none,.bool false,.none]}:Obj))::nw) H s:=
  ⟨S.F,λ p hp=>by
   rcases List.mem_cons.mp hp with rfl | hp
   ·exact⟨he,eL,e0⟩
   ·exact S.N p hp,S.C.sub λ _ h=>.tail _ h,S.fo.mono (ext_sub λ _ h=>.tail _ h).s,S.ho.mono (ext_sub λ _ h=>.tail _ h).s⟩
 have hLm:c.L∉mutA φ:=λ q=>by
  obtain⟨o,ho⟩:=S.C.owned q
  exact(S.N _ ho).2.1 rfl
 refine wpAny_call (enter_any (ds:=[.str ds]) (vs:=[.sta (.ref e),.str st]) (kws:=[]) fx hr S1 hK (okFn_is hok) hbody ?_ ?_ ?_ ?_ ?_ ?_ ?_ λ L' m' nw' s' oL fx' J hns hlt hL=>?_)
 ·refine⟨[.str ds dt],?_,λ hQ=>by rw [hdf];exact wpAny_seqItems (X _ _ hdt) rfl (hQ _ rfl)⟩
  exact .cons vr_str .nil
 ·exact .cons vr_sta (.cons vr_str .nil)
 ·rfl
 ·rw [hargs];exact Nat.le_refl 2
 ·rw [hargs];exact Nat.le_succ 1
 ·rw [hargs];rfl
 ·rw [hargs];rfl
 ·have hin':(e,({cls:=.ref 80,data:=.fields #[.ref t,.none,.none,.none,.bool false,.none]}:Obj))∈nw':=by
   refine byC λ nG=>?_
   obtain⟨h1 | ⟨⟨es,k,q⟩,_⟩,_⟩:=J.x.kx _ (.tail _ (.head _)) hn
   refine nG ?_
   ·exact h1
   ·cases q
  refine init_body (c:=calleeC c (calleeE fd 40 L') L') (v:=.str st) ki fx' J (J.S.N _ hin').1 rfl rfl rfl hl1 hl2 ?_ ?_ λ h' tk' k1 k2=>?_
  ·rw [hargs];rfl
  ·rw [hargs];rfl
  ·obtain⟨Sx,y,z,o2,ho2⟩:=exit_st S1 hns J.S J.x hLm
   have kp:∀ b ob,b≠e→s'.heap.get? b=some ob→h'.get? b=some ob:=k1
   have ye:=extV_but Sx (mem_ndrop hin' eL) (λ q=>by rcases q with ⟨_,a,b,q⟩ | ⟨q,_⟩ | ⟨_,q⟩<;>cases q) (nw':=ndrop (ndrop nw' c.L) e) λ p h q=>mem_ndrop h q
   have ze:Ext φ nw φ (ndrop (ndrop nw' c.L) e):=ext_off ((ext_sub λ _ h=>.tail _ h).trans z) en λ p h q=>mem_ndrop h q
   refine byC λ nG=>?_
   obtain⟨oo,es,ep,hLo,hd,hk,hf⟩:=Sx.F.ns
   refine nG ?_
   refine hq _ (ndrop (ndrop nw' c.L) e) ?_ ze (λ p hp=>(of_ndrop hp).2) k2 (Upto.trans J.u ⟨h',tk',rfl⟩)
   exact⟨⟨⟨oo,es,ep,kp _ _ (Ne.symm eL) hLo,hd,hk,hf⟩,λ b o hb=>kp _ _ (λ q=>by rw [q,e0] at hb;exact no_some hb) (Sx.F.keep b o hb),S.F.above⟩,
    λ p hp=>⟨kp _ _ (of_ndrop hp).2 (Sx.N _ (of_ndrop hp).1).1,(Sx.N _ (of_ndrop hp).1).2⟩,Sx.C.chgV ye λ d hd ob h=>mem_ndrop h λ q=>hn (q▸hd),S.fo.mono ze.s,S.ho.mono ze.s⟩
end
end VS.Internal
end
section
open PySem PySem.W PySem.Calls PyProof.Rows PySem.SeqAt
set_option backward.match.sparseCases false
set_option maxRecDepth 100000
namespace VS.Internal
section
variable{g:G0}
theorem raise_ok(kx:KX g.K)(ki:KI g.K)(k:Nat):RaiseOk g k:=by
 intro c sc φ₀ nw₀ s₀ ρ φ nw H m s cn np cpos pos e Q X fx bf hh J h2 h3 hce hX
 refine byC λ nG=>?_
 obtain⟨st,kd,p,rfl⟩:=constStr_is hce
 refine nG ?_
 refine byC λ nG=>?_
 obtain⟨nm,q,N,bs,bm,sn,sub,ab,col,dd,k0,k1,k2,k3,k5,hC,hbm⟩:=kx.exc.obj
 refine nG ?_
 simp only [arm_exec_Raise]
 refine wpAny_bind (wpAny_standAt (raise_own (C:=80) (nm:=nm) (q:=q) (N:=N) (bs:=bs) (bm:=bm) (hdct:=true) (sn:=sn) (sub:=sub) (ab:=ab) (col:=col) (dd:=dd) (k0:=k0) (k1:=k1) (k2:=k2) (k3:=k3) (k5:=k5) (newId:="ValueError.__new__") (over_base hbm) hh (wpAny_bind (wpAny_mono (wpAny_Call_ofName (name_here kx fx J.S J.O h2 h3 ?_)) (λ v s₃ h₃=>wpAny_bind (wpAny_standAt (wpAny_pure h₃))) λ _ _ x=>x))))
 refine wpAny_bind (wpAny_holding (wpAny_mono (evalArgs_kw2 (e:=.Constant (.str st) kd p) (rest:=[]) (kws:=[]) rfl ?_) (λ a s₂ h₂=>h₂) λ _ _ x=>x))
 have hc:CallOk false g (λ _ _ _=>no) k:=λ _ _ _ _ _ _ _ _ _ _ _ _ _ _ _ _ _ _ h=>h.elim
 have bx:BudX false c X k:=⟨bf,.inl ⟨rfl,hh⟩⟩
 have hrun:Run (evL g.K (λ _ _ _=>no) 5 sc ρ [.Constant (.str st) kd p] H) (λ vs h=>vs=[.str st]∧h=H) X:=⟨rfl,rfl⟩
 refine J.bind ((sound_all hc 5).L (pos:=cpos) fx bx J.S J.O rfl hrun) λ φ1 nw1 H1 vs us s1 J1 x1 hv hP=>?_
 obtain⟨rfl,rfl⟩:=hP
 obtain⟨u,rfl,tk,rfl⟩:=vrs1 hv
 refine wpAny_pure ?_
 refine wpAny_bind (wpAny_standAt ?_)
 obtain⟨hp,gg,d,tks,os⟩:=s1
 have hC1:hp.get? 80=_:=J1.S.in fx _ _ hC
 have hplain:(backTo cpos (starEach [.Constant (.str st) kd p] c.env₀)).any (·.1)=false:=rfl
 dsimp only [hplain]
 refine wpAny_bind (wpAny_keeperOf_exc hC1 ?_)
 refine wpAny_bind (call_own (J1.S.in fx) hbm hC1 ki.init ki.fn (λ h' e hm=>?_) (by show 1≤_;decide))
 have hd0:c.A.depth+10*k+8≤900:=bf.1
 have e0h:=hm.new
 refine byC λ nG=>?_
 obtain⟨t,ht,_,_⟩:=hm.there
 refine nG ?_
 have eL:e≠c.L:=λ q=>by
  obtain⟨oL,_,_,hL,_⟩:=J1.S.F.ns
  rw [q] at e0h
  exact absurd (e0h.symm.trans hL) (by simp)
 have e0:c.b₀.get? e=none:=by
  cases eq:c.b₀.get? e with
  | none=>rfl
  | some o=>exact absurd (e0h.symm.trans (J1.S.F.keep _ _ eq)) (by simp)
 have en:∀ p∈nw1,p.1≠e:=λ p hp q=>by
  have:=(J1.S.N p hp).1
  rw [q] at this
  exact absurd (e0h.symm.trans this) (by simp)
 have fx1:Fx g {c with A:=c.A.under (.builtin "type.__call__" ⟨.ref 80::([]++[.str st tk]),[]⟩)}:=⟨fx.X,fx.T,fx.fr,fx.hf,fx.hke⟩
 have S1:St g {c with A:=c.A.under (.builtin "type.__call__" ⟨.ref 80::([]++[.str st tk]),[]⟩)} m φ1 nw1 H1 {heap:=h',gens:=gg,drawn:=d,toks:=tks,os:=os}:=
  {F:=J1.S.F.keeps hm.keeps,N:=J1.S.N.grown hm.keeps,C:=J1.S.C,fo:=J1.S.fo,ho:=.inl hh}
 refine init_call (c:={c with A:=c.A.under (.builtin "type.__call__" ⟨.ref 80::([]++[.str st tk]),[]⟩)}) ki fx1 ?_ S1 ht eL e0 en λ s' nw3 S3 x3 en3 ho u3=>⟨rfl,?_⟩
 ·first | (show c.A.depth+0<1000;omega) | (show c.A.depth+1<1000;lia) | (show c.A.depth+3<1000;omega)
 ·refine wpAny_bind (wpAny_holding (wpAny_point (wpAny_pure ?_)))
  refine byC λ nG=>?_
  obtain⟨o',ho1,ho2,ho3⟩:=ho
  refine nG ?_
  have S3':St g c m φ1 nw3 H1 s':=⟨S3.F,S3.N,S3.C,S3.fo,.inl hh⟩
  exact⟨e,o',t,rfl,S3'.in fx _ _ hC,ho1,ho2,ho3,m,e,80,φ1,nw3,H1,rfl,S3',J1.x.trans x3,⟨⟨o',_,ho1,ho2,ho3,rfl,.inl rfl⟩,e0,eL,en3⟩,hX,J1.u.trans (Upto.trans ⟨h',tks,rfl⟩ u3)⟩
end
end VS.Internal
end
section
open PySem PySem.W PySem.Calls PyProof.Rows PySem.SeqAt
namespace VS.Internal
theorem callF_sound{g:G0}(kx:KX g.K)(ki:KI g.K)(n:Nat)(hd:Bool):CallOk hd g (callF g.K n hd) n:=callF_ok kx (raise_ok kx ki) n hd
end VS.Internal
end
section
open PySem PySem.W PySem.Calls PyProof.Rows PySem.SeqAt
set_option backward.match.sparseCases false
set_option maxRecDepth 1000000
namespace VS.Internal
section
variable{g:G0}{s:Shared}
noncomputable def topC(b₀:Heap)(env:Env)(L:Addr):Cx:={A:=callerA.deeper env,env₀:=env,outer:=[],b₀:=b₀,L:=L}
theorem enter_top{a:Addr}{oc:Value}{od:Option Addr}{fd:FuncData}{osl:Array (Option Value)}{body:List Stmt}{vs:List V}{us:List Value}{R:Result→Shared→Prop}
  (X:g.K.In s.heap) (T:TopRead g.p g.loose g.mg g.mb s.heap) (hK:g.K.lookup a=some ⟨oc,od,.func fd,osl⟩) (F:OkFn g.K fd) (hb:fd.body = .stmts body) (hdf:fd.defaults = .none)
  (hv:VRs g.K [] [] vs us) (hl:vs.length≤(pn fd).length) (hkw:okKw (pn fd) ((pn fd).take vs.length) (([]:List (PySem.Str × V)).map (·.1))=true)
  (hm:((pn fd).take ((pn fd).length-([]:List V).length)).all (λ n=>(((pn fd).zip vs++[]).lookup n).isSome)=true)
  (h:∀ m' nw' s',Fx g (topC s.heap (calleeE fd a s.heap.objs.size) s.heap.objs.size)→SI g (topC s.heap (calleeE fd a s.heap.objs.size) s.heap.objs.size) fd.scope [] [] s (bindP (pn fd) vs [] []) [] nw' [] m' s'→
   wpAny (model g.prog g.w) (callerA.deeper (calleeE fd a s.heap.objs.size)) (execs body (calleeE fd a s.heap.objs.size)) (λ f s'=>R (.ok (.ret (retV f))) s')
    (λ e s'=>wpAny (model g.prog g.w) (callerA.deeper (calleeE fd a s.heap.objs.size)) (leaving (calleeE fd a s.heap.objs.size) e) (λ _ s''=>R (.error e) s'') (λ e' s''=>R (.error e') s'') s') s') :
  codeAny (model g.prog g.w) callerA (.call (.ref a) ⟨us,[]⟩) R s:=
 have fx':Fx g (topC s.heap (calleeE fd a s.heap.objs.size) s.heap.objs.size):=⟨X,T,rfl,rfl,F.ki⟩
 enter_core (A:=callerA) (outer:=[]) (b₀:=s.heap) (nw:=[]) (φ:=[]) (H:=[]) (kws:=[]) (ds:=[]) (dus:=[]) (by decide) X T.nolimit hK F hb VRs.nil (λ hQ=>by rw [hdf];exact wpAny_pure (hQ none rfl)) hv (rfl:KRs g.K [] [] [] []) hl (Nat.zero_le _) hkw hm fx' (λ _ _ e=>e) (Nat.le_refl _)
  (λ p hp=>nomatch hp) ⟨rfl,List.nodup_nil,λ i a d o h=>no_some h⟩ (λ env he=>nomatch he) (.inl rfl) λ m' nw' s' J=>h m' nw' s' fx' J
end
end VS.Internal
end
section
open PySem PySem.W PySem.Calls PyProof.Rows PySem.SeqAt
set_option backward.match.sparseCases false
set_option maxRecDepth 1000000
namespace VS.Internal
section
variable{g:G0}{s:Shared}
theorem call_top{n:Nat}{a:Addr}{vs:List V}{us:List Value}{P:V→Hp→Prop}(kx:KX g.K)(ki:KI g.K)
  (X:g.K.In s.heap) (T:TopRead g.p g.loose g.mg g.mb s.heap) (hn:n≤40) (hd0:∀ oc od fd osl,g.K.lookup a=some ⟨oc,od,.func fd,osl⟩→fd.defaults = .none) (hv:VRs g.K [] [] vs us)
  (h:Run (callF g.K (n+1) false a vs [] []) P (λ _ _=>False)) :
  codeAny (model g.prog g.w) callerA (.call (.ref a) ⟨us,[]⟩)
   (λ r s'=>∃ v φ nw H u,r = .ok (.ret u)∧VR g.K φ nw v u∧P v H∧(∀ b o,s.heap.get? b=some o→s'.heap.get? b=some o)∧Upto s s') s:=by
 refine byC λ nG=>?_
 obtain⟨o,e1,h1⟩:=onSome_is (o:=g.K.lookup a) h
 obtain⟨fd,e4,h2⟩:=onSome_is h1
 obtain⟨body,e2,h3⟩:=onSome_is h2
 obtain⟨ds,e3,h4⟩:=onSome_is h3
 obtain⟨hok,h5⟩:=rIf h4
 clear h h1 h2 h3 h4
 have e5:=e1.trans (congrArg some (obj_eq rfl rfl (funD_is e4)))
 have hdf:=hd0 _ _ _ _ e5
 have hds:ds=[]:=by rw [hdf] at e3;exact(Option.some.inj e3).symm
 subst hds
 obtain⟨k1,k2,_,k4,k5⟩:=okCall_is hok
 refine nG (enter_top X T e5 (okFn_is k1) (bodyS_is e2) hdf hv k2 k4 k5 λ m' nw' s' fx' J=>?_)
 refine wpAny_mono ((st_ok kx (raise_ok kx ki n) 60).all (c:=topC s.heap (calleeE fd a s.heap.objs.size) s.heap.objs.size) (callF_sound kx ki n false) (callF_sound kx ki n true) fx' ⟨⟨?_,?_⟩,.inl ⟨rfl,rfl⟩⟩ J h5) (λ fl s2 hf=>?_) λ u s2 hx=>?_
 ·show 1+claimMargin+1+10*n+8≤900
  have:claimMargin≤400:=by decide
  lia
 ·show 4+3+100*n+80≤9000
  lia
 ·cases fl with
  | next=>
   refine byC λ nG=>?_
   obtain⟨ρ3,φ3,nw3,H3,m3,J3,q⟩:=hf
   exact nG ⟨_,φ3,nw3,H3,.none,rfl,vr_none,q,J3.S.F.keep,J3.u⟩
  | ret v=>
   refine byC λ nG=>?_
   obtain⟨φ3,nw3,H3,m3,w,S3,x3,u3,hv3,q⟩:=hf
   exact nG ⟨_,φ3,nw3,H3,v,rfl,hv3,q,S3.F.keep,u3⟩
  | _=>exact hf.elim
 ·obtain⟨m2,e,C,φ1,nw1,H1,rfl,S1,x1,F1,hX,u1⟩:=hx
  exact hX.elim
end
theorem ints_of{vs:List Value}{ns:List Int}(hI:IntsAre vs ns):intsOf vs=some (ns.map V.int):=by
 induction hI with
 | nil=>rfl
 | cons i t h ih=>exact congrArg (Option.map (V.int i :: ·)) ih
theorem lookup_app{K:Frag}{l:Addr}{o:Obj}{a:Addr}:(K++[(l,o)]).lookup a=(K.lookup a).or (if a==l then some o else none):=by
 rw [List.lookup_append,List.lookup_cons]
 cases a==l<;>rfl
theorem app_in{K:Frag}{h:Heap}{l:Addr}{o:Obj}(X:K.In h)(ho:h.get? l=some o):Frag.In (K++[(l,o)]) h:=λ a x e=>by
 rw [lookup_app] at e
 refine oC (K.lookup a) (λ q=>?_) λ y q=>?_<;>rw [q] at e
 ·have z:=iteO (b:=a==l) (n:=some o) e
  rw [eq_of_beq z.1,←Option.some.inj z.2];exact ho
 ·exact Option.some.inj e▸X a _ q
theorem app_lst{K:Frag}{h:Heap}{l:Addr}{o:Obj}{vs:List Value}{ns:List Int}(X:K.In h)(ho:h.get? l=some o)(hl:h.IsList l vs.toArray)(hI:IntsAre vs ns):lstK (K++[(l,o)]) l=some (ns.map V.int):=by
 have e:(K++[(l,o)]).lookup l=some o:=by
  rw [lookup_app]
  exact oC (K.lookup l) (λ q=>by rw [q];simp) λ y q=>by rw [q];exact(X l _ q).symm.trans ho
 refine hl.elim λ o2 k=>k.2.2.elim λ n hd=>?_
 cases Option.some.inj (ho.symm.trans k.1)
 unfold lstK
 rw [e]
 show(if isT o.cls "list" then(seqD o.data).bind intsOf else none)=_
 rw [k.2.1,hd]
 exact ints_of hI
end VS.Internal
end
section
open PySem PySem.W PySem.Calls PyProof.Rows PySem.SeqAt
set_option backward.match.sparseCases false
set_option maxRecDepth 1000000
namespace VS.Internal
noncomputable def dfOf:Option Obj→Value
 | some ⟨_,_,.func fd,_⟩=>fd.defaults
 | _=>.none
noncomputable def not80:Option V→Bool
 | some (.sta (.ref a))=>a != 80
 | _=>true
theorem ne80{o:Option V}(h:not80 o=true):o≠some (.sta (.ref 80)):=λ e=>by subst e;exact absurd h (by decide)
structure KB(K:Frag):Prop where
 kx:KX K
 ki:KI K
 law:nsIn K mainGlobals "law" = some (some (.ref 827))
 df:dfOf (K.lookup 827) = .none
set_option maxHeartbeats 8000000 in
theorem law_of_run{K:Params→Frag}(kb:∀(p:Params) (l:Addr) (ob:Obj),KB (K p++[(l,ob)]))
  (H:∀(p:Params) (l:Addr) (ob:Obj) (ns:List Int),lstK (K p++[(l,ob)]) l=some (ns.map V.int)→ns.length≤63→
  Run (callF (K p++[(l,ob)]) 12 false 827 [.sta (.ref l)] [] []) (λ v _=>v = .bool true) (λ _ _=>False))
  {q:Program}{loose:List PySem.Str}{lv:List (PySem.Str × WData)}{as:List Addr}{he:∀ P,as=(K P).map (·.1)}{d:DefRec}{kwd:List (PySem.Str × Expr)} (hdn:d.name = "law") :
  WalkO q loose (XL q lv) (kHook K as he).says PySem.Challenge.rw_rg0164_01.row.toRowW d kwd λ f vs=>PySem.call f vs:=by
 intro w s₀ s₁ mg mb G Y fa o pm cd doc dV kV ho hd hcd hD hmg hg args vals as hpre hlay hrd hwl hlo
 have KX:=kIn_of Y
 have X:=(Ground.X G).1
 refine Ground.open G ?_
 intro T B D TE TW
 have TR:=topRead_of T
 clear D TE TW B X Y hD hcd hd
 wrow_args hpre hlay hrd hwl hlo
 rename_i ns _ _ _ _ _ _ _ l vs _ hL _ _ _ hI _ hc _
 refine enter_call ?_
 refine codeAny_mono (R:=GoodW PySem.Challenge.rw_rg0164_01.row.claim (classAt s₀.heap) (ExcName.means s₀.heap) [ofPy (PyData.list (List.map PyData.int ns))] s₁) ?_ (λ _ _ g=>GoodW.toG g)
 obtain⟨ob,hob,hL'⟩:=id hL
 have KX':(K w.params++[(l,ob)]).In s₁.heap:=app_in KX hob
 have hfa:fa=827:=by
  have e:=mg_of KX' TR.g (kb w.params l ob).law
  have e2:=(show mg ("law" : PySem.Str)=some (.ref fa) from hdn▸hmg).symm.trans e
  cases e2;rfl
 subst hfa
 have hrun:=H w.params l ob ns (app_lst KX hob hL hI) (by lia)
 refine codeAny_mono (call_top (g:=⟨PySem.Challenge.rw_rg0164_01.row.prog,w,K w.params++[(l,ob)],_,_,mg,mb⟩) (kb _ _ _).kx (kb _ _ _).ki KX' TR (by decide) (λ oc od fd osl e=>?_) (VRs.cons vr_sta VRs.nil) hrun) ?_
 ·have:=(kb w.params l ob).df
  rw [show(K w.params++[(l,ob)]:Frag).lookup 827=some ⟨oc,od,.func fd,osl⟩ from e] at this
  exact this
 ·rintro r s' ⟨v,φ,nw,H',u,rfl,hv,rfl,hk,h',tk,rfl⟩
  have hu:u = .bool true:=bool_is hv
  rw [hu]
  refine⟨.inl ⟨_,.bool true,[],rfl,?_,?_,?_,?_⟩,hk,rfl,hg⟩
  ·intro cls;rfl
  ·exact .bool true
  ·kernel_rfl
  ·intro _;exact⟨List.nodup_nil,λ a ha=>by cases ha⟩
end VS.Internal
end
set_option backward.eqns.nonrecursive true
section
open PySem PySem.W
set_option backward.match.sparseCases false
set_option maxRecDepth 100000
namespace VS.Internal
noncomputable section
def fv:Fl→V
| .ret v=>v
| .next _=>.none
def Kf(P:V→Hp→Prop)(fl:Fl)(h:Hp):Prop:=P (fv fl) h
def jp(k:Lo→M Fl)(f:(Lo→M Fl)→M Fl):M Fl:=f k
def tryM(m:M V)(f:V→M Fl)(g:M Fl)(k:Lo→M Fl):M Fl:=λ h=>R.then (m h) f λ c' h'=>
if c'=80 then M.bind (noexc g) (λ fl=>match fl with | .ret v=>M.pure (.ret v) | .next ρ'=>k ρ') h' else .no
def tryA(m:M V)(a:V→M Fl)(g:M Fl)(k:Lo→M Fl):M Fl:=tryM m (λ v=>M.bind (noexc (a v)) λ fl=>match fl with | .next ρ'=>k ρ' | .ret _=>no) g k
def scOf(K:Frag)(a:Addr):Scope:=match K.lookup a with
| some ⟨_,_,.func fd,_⟩=>fd.scope
| _=>{kind:=.function,names:=[],isGenerator:=false,isCoroutine:=false}
def bodyOf(K:Frag)(a:Addr):List Stmt:=match K.lookup a with
| some ⟨_,_,.func fd,_⟩=>(match fd.body with | .stmts b=>b | _=>[])
| _=>[]
def mkM(call:CallT)(c f:Addr)(args:List V)(kws:List (PySem.Str × V)):M V:=do
let o ←alloc (.inst c [])
match ←noexc (call f (o::args) kws) with
| .none=>pure o
| _=>no
abbrev c_105_1(value high:V):M V:=
M.bind (cmpV .LtE value high) λ r8=>M.pure (V.bool r8)
abbrev c_105_2(value low high:V):M V:=
M.bind (cmpV .LtE low value) λ r7=>M.bind (if r7 then(c_105_1 value high) else M.pure (V.bool false)) λ t6=>M.bind (asB t6) λ b9=>M.pure (V.bool b9)
abbrev c_105_3(value low high:V)(b5:Bool):M V:=
if b5 then(c_105_2 value low high) else M.pure (V.bool false)
abbrev c_105_4(value low high:V):M V:=
M.bind (bcall (.builtin "isinstance") [value,(V.sta (.type "bool"))]) λ t4=>M.bind (unV .Not t4) λ t3=>M.bind (asB t3) (c_105_3 value low high)
abbrev c_105(K:Frag)(call:CallT)(value low high:V):M Fl:=
M.bind (bcall (.builtin "isinstance") [value,(V.sta (.type "int"))]) λ t1=>M.bind (asB t1) λ b2=>M.bind (if b2 then(c_105_4 value low high) else M.pure (V.bool false)) λ t0=>M.pure (.ret t0)
abbrev c_112_1(value:V):M V:=
M.bind (bcall (.builtin "isinstance") [value,(V.sta (.type "bool"))]) λ t4=>M.bind (asB t4) λ b5=>M.pure (V.bool b5)
abbrev c_112_2(value:V)(b3:Bool):M Fl:=
M.bind (if b3 then M.pure (V.bool true) else(c_112_1 value)) λ t0=>M.bind (asB t0) λ b6=>if b6 then no else M.pure (.ret value)
abbrev c_112(K:Frag)(call:CallT)(value:V):M Fl:=
M.bind (bcall (.builtin "isinstance") [value,(V.sta (.type "int"))]) λ t2=>M.bind (unV .Not t2) λ t1=>M.bind (asB t1) (c_112_2 value)
abbrev c_119_1(t3:V):M V:=
M.bind (cmpV .LtE t3 (V.int 2147483647)) λ r5=>M.pure (V.bool r5)
abbrev c_119_2(value t1:V):M Fl:=
M.bind (unV .Not t1) λ t0=>M.bind (asB t0) λ b6=>if b6 then no else M.pure (.ret value)
abbrev c_119(K:Frag)(call:CallT)(value:V):M Fl:=
M.bind (call 112 [value] []) λ t3=>M.bind (cmpV .LtE (V.int (-2147483647)) t3) λ r4=>M.bind (if r4 then(c_119_1 t3) else M.pure (V.bool false)) (c_119_2 value)
abbrev c_126_1(t3:V):M V:=
M.bind (cmpV .LtE t3 (V.int 1073741823)) λ r5=>M.pure (V.bool r5)
abbrev c_126(K:Frag)(call:CallT)(value:V):M Fl:=
M.bind (call 112 [value] []) λ t3=>M.bind (cmpV .LtE (V.int (-1073741823)) t3) λ r4=>M.bind (if r4 then(c_126_1 t3) else M.pure (V.bool false)) (c_119_2 value)
abbrev c_168_1(t18:V):M Fl:=
M.bind (binV .FloorDiv t18 (V.int 262144)) λ t17=>M.pure (.ret t17)
abbrev c_168_2(t12:V):M Fl:=
M.bind (binV .Mult t12 t12) λ t20=>M.bind (binV .Mult t20 t12) λ t19=>M.bind (binV .Add t19 (V.int 131072)) (c_168_1)
abbrev c_168_3(t12:V)(r15:Bool):M Fl:=
if r15 then M.pure (.ret (V.int 10000)) else(c_168_2 t12)
abbrev c_168_4(excess total:V):M Fl:=
M.bind (binV .Mult excess (V.int 297)) λ t13=>M.bind (binV .FloorDiv t13 total) λ t12=>M.bind (cmpV .Gt t12 (V.int 1290)) (c_168_3 t12)
abbrev c_168_5(excess total:V):M Fl:=
M.bind (binV .FloorDiv total (V.int 297)) λ t25=>M.bind (binV .FloorDiv excess t25) λ t24=>M.bind (cmpV .Gt t24 (V.int 1290)) (c_168_3 t24)
abbrev c_168_6(excess:V):M Fl:=
M.bind (cmpV .Gt excess (V.int 1290)) λ r34=>if r34 then M.pure (.ret (V.int 10000)) else(c_168_2 excess)
abbrev c_168_7(excess total:V):M Fl:=
M.bind (cmpV .GtE total (V.int 1663497)) λ r22=>if r22 then(c_168_5 excess total) else(c_168_6 excess)
abbrev c_168_8(excess total:V):M Fl:=
M.bind (cmpV .LtE excess (V.int 7230584)) λ r10=>if r10 then(c_168_4 excess total) else(c_168_7 excess total)
abbrev c_168_9(excess total:V):M Fl:=
M.bind (cmpV .LtE total (V.int 0)) λ r7=>if r7 then M.pure (.ret (V.int 10000)) else(c_168_8 excess total)
abbrev c_168_10(excess total:V):M Fl:=
M.bind (cmpV .Eq excess (V.int 0)) λ r4=>if r4 then M.pure (.ret (V.int 0)) else(c_168_9 excess total)
abbrev c_168(K:Frag)(call:CallT)(excess total:V):M Fl:=
M.bind (cmpV .Lt excess (V.int 0)) λ r1=>if r1 then no else(c_168_10 excess total)
abbrev c_197_1(call:CallT)(shrink_order:V):M V:=
M.bind (call 105 [shrink_order,(V.int 0),(V.int 3)] []) λ t5=>M.bind (unV .Not t5) λ t4=>M.bind (asB t4) λ b6=>M.pure (V.bool b6)
abbrev c_197_2(K:Frag)(self width stretch stretch_order shrink shrink_order:V):M Fl:=
M.bind (cmpV .NotEq shrink (V.int 0)) λ r17=>M.bind (if r17 then M.pure shrink_order else M.pure (V.int 0)) λ t15=>M.bind (setA K self "shrink_order" t15) λ _=>M.pure (.next [("self",self),("width",width),("stretch",stretch),("stretch_order",stretch_order),("shrink",shrink),("shrink_order",shrink_order)])
abbrev c_197_3(K:Frag)(call:CallT)(self width stretch stretch_order shrink shrink_order t10:V):M Fl:=
M.bind (setA K self "stretch_order" t10) λ _=>M.bind (call 126 [shrink] []) λ t14=>M.bind (setA K self "shrink" t14) λ _=>c_197_2 K self width stretch stretch_order shrink shrink_order
abbrev c_197_4(K:Frag)(call:CallT)(self width stretch stretch_order shrink shrink_order t9:V):M Fl:=
M.bind (setA K self "stretch" t9) λ _=>M.bind (cmpV .NotEq stretch (V.int 0)) λ r12=>M.bind (if r12 then M.pure stretch_order else M.pure (V.int 0)) (c_197_3 K call self width stretch stretch_order shrink shrink_order)
abbrev c_197_5(K:Frag)(call:CallT)(self width stretch stretch_order shrink shrink_order:V):M Fl:=
M.bind (call 126 [width] []) λ t8=>M.bind (setA K self "width" t8) λ _=>M.bind (call 126 [stretch] []) (c_197_4 K call self width stretch stretch_order shrink shrink_order)
abbrev c_197_6(K:Frag)(call:CallT)(self width stretch stretch_order shrink shrink_order:V)(b3:Bool):M Fl:=
M.bind (if b3 then M.pure (V.bool true) else(c_197_1 call shrink_order)) λ t0=>M.bind (asB t0) λ b7=>if b7 then no else(c_197_5 K call self width stretch stretch_order shrink shrink_order)
abbrev c_197(K:Frag)(call:CallT)(self width stretch stretch_order shrink shrink_order:V):M Fl:=
M.bind (call 105 [stretch_order,(V.int 0),(V.int 3)] []) λ t2=>M.bind (unV .Not t2) λ t1=>M.bind (asB t1) (c_197_6 K call self width stretch stretch_order shrink shrink_order)
abbrev c_204_1(K:Frag)(self t2 t4 t6:V):M Fl:=
M.bind (getA K self "shrink") λ t8=>M.bind (getA K self "shrink_order") λ t10=>M.pure (.ret (V.tup [t2,t4,t6,t8,t10]))
abbrev c_204(K:Frag)(call:CallT)(self:V):M Fl:=
M.bind (getA K self "width") λ t2=>M.bind (getA K self "stretch") λ t4=>M.bind (getA K self "stretch_order") (c_204_1 K self t2 t4)
abbrev c_261_1(ρ901:Lo):M Fl:=
M.bind (ofO (lk "order" ρ901)) λ t12=>M.pure (.ret t12)
abbrev c_261_2(ρ902:Lo)(k4:Lo→M Fl)(t6:V):M Fl:=
M.bind (asB t6) λ b11=>if b11 then(c_261_1 ρ902) else k4 ρ902
abbrev c_261_3(ρ903:Lo)(k4:Lo→M Fl):M Fl:=
M.bind (M.bind (M.bind (ofO (lk "sums" ρ903)) λ t8=>M.bind (ofO (lk "order" ρ903)) λ t9=>getI t8 t9) λ t7=>M.bind (cmpV .NotEq t7 (V.int 0)) λ r10=>M.pure (V.bool r10)) (c_261_2 ρ903 k4)
abbrev c_261_4(v1:V)(ρ2:Lo)(k3:Lo→M Fl):M Fl:=
jp k3 (c_261_3 (put "order" v1 ρ2))
abbrev c_261(K:Frag)(call:CallT)(sums:V):M Fl:=
M.bind (toSrc (V.tup [(V.int 3),(V.int 2),(V.int 1)])) λ src0=>forLoop 200 src0 0 [("sums",sums)] (c_261_4) (λ ρ13=>M.pure (.ret (V.int 0)))
abbrev c_275_1(K:Frag)(self:V):M Fl:=
M.bind (alloc (.list [(V.int 0),(V.int 0),(V.int 0),(V.int 0)])) λ t1=>M.bind (setA K self "shrink" t1) λ _=>M.pure (.next [("self",self)])
abbrev c_275(K:Frag)(call:CallT)(self:V):M Fl:=
M.bind (setA K self "natural" (V.int 0)) λ _=>M.bind (alloc (.list [(V.int 0),(V.int 0),(V.int 0),(V.int 0)])) λ t0=>M.bind (setA K self "stretch" t0) λ _=>c_275_1 K self
abbrev c_282_1(self glue t10 t11:V)(i13 j14:Int):M Fl:=
M.bind (setI t10 t11 (.int (i13+j14))) λ _=>M.pure (.next [("self",self),("glue",glue)])
abbrev c_282_2(K:Frag)(self glue t10 t11 t12:V):M Fl:=
M.bind (asI t12) λ i13=>M.bind (getA K glue "shrink") λ t15=>M.bind (asI t15) (c_282_1 self glue t10 t11 i13)
abbrev c_282_3(K:Frag)(self glue:V):M Fl:=
M.bind (getA K self "shrink") λ t10=>M.bind (getA K glue "shrink_order") λ t11=>M.bind (getI t10 t11) (c_282_2 K self glue t10 t11)
abbrev c_282_4(K:Frag)(self glue t4 t5:V)(i7:Int):M Fl:=
M.bind (getA K glue "stretch") λ t9=>M.bind (asI t9) λ j8=>M.bind (setI t4 t5 (.int (i7+j8))) λ _=>c_282_3 K self glue
abbrev c_282_5(K:Frag)(self glue t4:V):M Fl:=
M.bind (getA K glue "stretch_order") λ t5=>M.bind (getI t4 t5) λ t6=>M.bind (asI t6) (c_282_4 K self glue t4 t5)
abbrev c_282_6(K:Frag)(self glue:V)(i1:Int)(t3:V):M Fl:=
M.bind (asI t3) λ j2=>M.bind (setA K self "natural" (.int (i1+j2))) λ _=>M.bind (getA K self "stretch") (c_282_5 K self glue)
abbrev c_282(K:Frag)(call:CallT)(self glue:V):M Fl:=
M.bind (getA K self "natural") λ t0=>M.bind (asI t0) λ i1=>M.bind (getA K glue "width") (c_282_6 K self glue i1)
abbrev c_289_1(K:Frag)(self width:V)(i1 j2:Int):M Fl:=
M.bind (setA K self "natural" (.int (i1+j2))) λ _=>M.pure (.next [("self",self),("width",width)])
abbrev c_289(K:Frag)(call:CallT)(self width:V):M Fl:=
M.bind (getA K self "natural") λ t0=>M.bind (asI t0) λ i1=>M.bind (asI width) (c_289_1 K self width i1)
abbrev c_296(K:Frag)(call:CallT)(self:V):M Fl:=
M.bind (getA K self "stretch") λ t2=>M.bind (call 261 [t2] []) λ t0=>M.pure (.ret t0)
abbrev c_303(K:Frag)(call:CallT)(self:V):M Fl:=
M.bind (getA K self "shrink") λ t2=>M.bind (call 261 [t2] []) λ t0=>M.pure (.ret t0)
abbrev c_351_1(K:Frag)(self kind width height depth items:V):M Fl:=
M.bind (setA K self "sign" (V.int 0)) λ _=>M.bind (setA K self "order" (V.int 0)) λ _=>M.bind (setA K self "ratio" (V.tup [(V.int 0),(V.int 1)])) λ _=>M.pure (.next [("self",self),("kind",kind),("width",width),("height",height),("depth",depth),("items",items)])
abbrev c_351_2(K:Frag)(self kind width height depth items t5:V):M Fl:=
M.bind (setA K self "depth" t5) λ _=>M.bind (setA K self "items" items) λ _=>M.bind (setA K self "shift" (V.int 0)) λ _=>c_351_1 K self kind width height depth items
abbrev c_351_3(K:Frag)(call:CallT)(self kind width height depth items:V):M Fl:=
M.bind (call 126 [height] []) λ t4=>M.bind (setA K self "height" t4) λ _=>M.bind (call 126 [depth] []) (c_351_2 K self kind width height depth items)
abbrev c_351_4(K:Frag)(call:CallT)(self kind width height depth items:V):M Fl:=
M.bind (setA K self "kind" kind) λ _=>M.bind (call 126 [width] []) λ t3=>M.bind (setA K self "width" t3) λ _=>c_351_3 K call self kind width height depth items
abbrev c_351_5(K:Frag)(call:CallT)(self kind width height depth items:V)(b2:Bool):M Fl:=
if b2 then no else(c_351_4 K call self kind width height depth items)
abbrev c_351(K:Frag)(call:CallT)(self kind width height depth items:V):M Fl:=
M.bind (call 105 [kind,(V.int 2),(V.int 3)] []) λ t1=>M.bind (unV .Not t1) λ t0=>M.bind (asB t0) (c_351_5 K call self kind width height depth items)
abbrev c_372_1(call:CallT)(ρ901:Lo)(k4:Lo→M Fl):M Fl:=
M.bind (M.bind (M.bind (ofO (lk "size" ρ901)) λ t11=>M.pure [t11]) λ vs10=>call 126 vs10 []) λ _=>k4 ρ901
abbrev c_372_2(call:CallT)(ρ902:Lo)(k4:Lo→M Fl)(t6:V):M Fl:=
M.bind (asB t6) λ b9=>if b9 then(c_372_1 call ρ902 k4) else k4 ρ902
abbrev c_372_3(call:CallT)(ρ903:Lo)(k4:Lo→M Fl):M Fl:=
M.bind (M.bind (ofO (lk "size" ρ903)) λ t7=>M.bind (cmpV .IsNot t7 V.none) λ r8=>M.pure (V.bool r8)) (c_372_2 call ρ903 k4)
abbrev c_372_4(call:CallT)(v1:V)(ρ2:Lo)(k3:Lo→M Fl):M Fl:=
jp k3 (c_372_3 call (put "size" v1 ρ2))
abbrev c_372_5(K:Frag)(ρ12:Lo):M Fl:=
M.bind (ofO (lk "depth" ρ12)) λ t17=>M.bind (ofO (lk "self" ρ12)) λ t18=>M.bind (setA K t18 "depth" t17) λ _=>M.pure (.next ρ12)
abbrev c_372_6(K:Frag)(ρ12:Lo):M Fl:=
M.bind (ofO (lk "height" ρ12)) λ t15=>M.bind (ofO (lk "self" ρ12)) λ t16=>M.bind (setA K t16 "height" t15) λ _=>c_372_5 K ρ12
abbrev c_372_7(K:Frag)(ρ12:Lo):M Fl:=
M.bind (ofO (lk "width" ρ12)) λ t13=>M.bind (ofO (lk "self" ρ12)) λ t14=>M.bind (setA K t14 "width" t13) λ _=>c_372_6 K ρ12
abbrev c_372(K:Frag)(call:CallT)(self width height depth:V):M Fl:=
M.bind (toSrc (V.tup [width,height,depth])) λ src0=>forLoop 200 src0 0 [("self",self),("width",width),("height",height),("depth",depth)] (c_372_4 call) (c_372_7 K)
abbrev c_393_1(K:Frag)(call:CallT)(self width sort:V):M Fl:=
M.bind (call 126 [width] []) λ t3=>M.bind (setA K self "width" t3) λ _=>M.bind (setA K self "sort" sort) λ _=>M.pure (.next [("self",self),("width",width),("sort",sort)])
abbrev c_393_2(K:Frag)(call:CallT)(self width sort:V)(b2:Bool):M Fl:=
if b2 then no else(c_393_1 K call self width sort)
abbrev c_393(K:Frag)(call:CallT)(self width sort:V):M Fl:=
M.bind (call 105 [sort,(V.int 0),(V.int 3)] []) λ t1=>M.bind (unV .Not t1) λ t0=>M.bind (asB t0) (c_393_2 K call self width sort)
abbrev c_415_1(t4:V):M V:=
M.bind (asB t4) λ b10=>M.pure (V.bool b10)
abbrev c_415_2(call:CallT)(sort:V):M V:=
M.bind (binV .Add (V.int 100) (V.int 99)) λ t9=>M.bind (call 105 [sort,(V.int 100),t9] []) λ t5=>M.bind (unV .Not t5) (c_415_1)
abbrev c_415_3(sort:V):M V:=
M.bind (cmpV .LtE sort (V.int 3)) λ r17=>M.pure (V.bool r17)
abbrev c_415_4(t26:V):M V:=
M.bind (cmpV .LtE t26 (V.int 4)) λ r28=>M.pure (V.bool r28)
abbrev c_415_5(t25:V):M V:=
M.bind (unV .Not t25) λ t24=>M.bind (asB t24) λ b29=>M.pure (V.bool b29)
abbrev c_415_6(K:Frag)(leader:V):M V:=
M.bind (getA K leader "kind") λ t26=>M.bind (cmpV .LtE (V.int 2) t26) λ r27=>M.bind (if r27 then(c_415_4 t26) else M.pure (V.bool false)) (c_415_5)
abbrev c_415_7(K:Frag)(self glue sort leader:V):M Fl:=
M.bind (setA K self "glue" glue) λ _=>M.bind (setA K self "sort" sort) λ _=>M.bind (setA K self "leader" leader) λ _=>M.pure (.next [("self",self),("glue",glue),("sort",sort),("leader",leader)])
abbrev c_415_8(K:Frag)(self glue sort leader:V)(b30:Bool):M Fl:=
if b30 then no else(c_415_7 K self glue sort leader)
abbrev c_415_9(K:Frag)(self glue sort leader:V):M Fl:=
M.bind (cmpV .IsNot leader V.none) λ r22=>M.bind (if r22 then(c_415_6 K leader) else M.pure (V.bool false)) λ t20=>M.bind (asB t20) (c_415_8 K self glue sort leader)
abbrev c_415_10(K:Frag)(self glue sort leader:V)(r14:Bool)(t15:V):M Fl:=
M.bind (cmpV .Eq (V.bool r14) t15) λ r18=>if r18 then no else(c_415_9 K self glue sort leader)
abbrev c_415_11(K:Frag)(self glue sort leader:V):M Fl:=
M.bind (cmpV .Is leader V.none) λ r14=>M.bind (cmpV .LtE (V.int 1) sort) λ r16=>M.bind (if r16 then(c_415_3 sort) else M.pure (V.bool false)) (c_415_10 K self glue sort leader r14)
abbrev c_415_12(K:Frag)(call:CallT)(self glue sort leader:V)(b3:Bool):M Fl:=
M.bind (if b3 then(c_415_2 call sort) else M.pure (V.bool false)) λ t0=>M.bind (asB t0) λ b11=>if b11 then no else(c_415_11 K self glue sort leader)
abbrev c_415(K:Frag)(call:CallT)(self glue sort leader:V):M Fl:=
M.bind (call 105 [sort,(V.int 0),(V.int 5)] []) λ t2=>M.bind (unV .Not t2) λ t1=>M.bind (asB t1) (c_415_12 K call self glue sort leader)
abbrev c_436(K:Frag)(call:CallT)(self value:V):M Fl:=
M.bind (call 119 [value] []) λ t0=>M.bind (setA K self "value" t0) λ _=>M.pure (.next [("self",self),("value",value)])
abbrev c_457(K:Frag)(call:CallT)(self tokens:V):M Fl:=
M.bind (bcall (.type "tuple") [tokens]) λ t0=>M.bind (setA K self "tokens" t0) λ _=>M.pure (.next [("self",self),("tokens",tokens)])
abbrev c_478_1(K:Frag)(call:CallT)(self number size depth top cost items:V):M Fl:=
M.bind (call 119 [cost] []) λ t5=>M.bind (setA K self "cost" t5) λ _=>M.bind (setA K self "items" items) λ _=>M.pure (.next [("self",self),("number",number),("size",size),("depth",depth),("top",top),("cost",cost),("items",items)])
abbrev c_478_2(K:Frag)(call:CallT)(self number size depth top cost items:V):M Fl:=
M.bind (call 126 [depth] []) λ t4=>M.bind (setA K self "depth" t4) λ _=>M.bind (setA K self "top" top) λ _=>c_478_1 K call self number size depth top cost items
abbrev c_478_3(K:Frag)(call:CallT)(self number size depth top cost items:V):M Fl:=
M.bind (setA K self "number" number) λ _=>M.bind (call 126 [size] []) λ t3=>M.bind (setA K self "size" t3) λ _=>c_478_2 K call self number size depth top cost items
abbrev c_478_4(K:Frag)(call:CallT)(self number size depth top cost items:V)(b2:Bool):M Fl:=
if b2 then no else(c_478_3 K call self number size depth top cost items)
abbrev c_478(K:Frag)(call:CallT)(self number size depth top cost items:V):M Fl:=
M.bind (call 105 [number,(V.int 0),(V.int 254)] []) λ t1=>M.bind (unV .Not t1) λ t0=>M.bind (asB t0) (c_478_4 K call self number size depth top cost items)
abbrev c_499_1(ρ901:Lo)(k4:Lo→M Fl)(t6:V):M Fl:=
M.bind (asB t6) λ b10=>if b10 then no else k4 ρ901
abbrev c_499_2(call:CallT)(ρ902:Lo)(k4:Lo→M Fl):M Fl:=
M.bind (M.bind (M.bind (M.bind (ofO (lk "octet" ρ902)) λ t9=>M.pure [t9,(V.int 0),(V.int 255)]) λ vs8=>call 105 vs8 []) λ t7=>unV .Not t7) (c_499_1 ρ902 k4)
abbrev c_499_3(call:CallT)(v1:V)(ρ2:Lo)(k3:Lo→M Fl):M Fl:=
jp k3 (c_499_2 call (put "octet" v1 ρ2))
abbrev c_499_4(K:Frag)(ρ11:Lo)(t12:V):M Fl:=
M.bind (ofO (lk "self" ρ11)) λ t15=>M.bind (setA K t15 "octets" t12) λ _=>M.pure (.next ρ11)
abbrev c_499_5(K:Frag)(ρ11:Lo):M Fl:=
M.bind (M.bind (M.bind (ofO (lk "octets" ρ11)) λ t14=>M.pure [t14]) λ vs13=>bcall (.type "bytes") vs13) (c_499_4 K ρ11)
abbrev c_499(K:Frag)(call:CallT)(self octets:V):M Fl:=
M.bind (toSrc octets) λ src0=>forLoop 200 src0 0 [("self",self),("octets",octets)] (c_499_3 call) (c_499_5 K)
abbrev c_513(K:Frag)(call:CallT)(depth:V):M Fl:=
M.bind (cmpV .Gt depth (V.int 60)) λ r1=>if r1 then no else M.pure (.next [("depth",depth)])
abbrev c_520_1(K:Frag)(call:CallT)(node depth t7 t13:V):M Fl:=
M.bind (getA K node "middle") λ t21=>M.bind (binV .Add depth (V.int 1)) λ t23=>M.bind (call 532 [t21,t23] []) λ t19=>M.pure (.ret (V.tup [(V.int 8),t7,t13,t19]))
abbrev c_520_2(K:Frag)(call:CallT)(node depth t7:V):M Fl:=
M.bind (getA K node "post") λ t15=>M.bind (binV .Add depth (V.int 1)) λ t17=>M.bind (call 532 [t15,t17] []) (c_520_1 K call node depth t7)
abbrev c_520_3(K:Frag)(call:CallT)(node depth:V):M Fl:=
M.bind (getA K node "pre") λ t9=>M.bind (binV .Add depth (V.int 1)) λ t11=>M.bind (call 532 [t9,t11] []) (c_520_2 K call node depth)
abbrev c_520_4(call:CallT)(t30 t32 t34 t36 t40 t44 t46:V):M Fl:=
M.bind (call 532 [t44,t46] []) λ t42=>M.pure (.ret (V.tup [(V.int 10),t30,t32,t34,t36,t40,t42]))
abbrev c_520_5(K:Frag)(call:CallT)(node depth t30 t32 t34 t36:V):M Fl:=
M.bind (getA K node "cost") λ t40=>M.bind (getA K node "items") λ t44=>M.bind (binV .Add depth (V.int 1)) (c_520_4 call t30 t32 t34 t36 t40 t44)
abbrev c_520_6(K:Frag)(call:CallT)(node depth t30 t32 t34:V):M Fl:=
M.bind (getA K node "top") λ t37=>M.bind (methF K t37 "parts") λ mk38=>M.bind (methC call mk38 t37 []) (c_520_5 K call node depth t30 t32 t34)
abbrev c_520_7(K:Frag)(call:CallT)(node depth:V):M Fl:=
M.bind (getA K node "number") λ t30=>M.bind (getA K node "size") λ t32=>M.bind (getA K node "depth") (c_520_6 K call node depth t30 t32)
abbrev c_520_8(K:Frag)(call:CallT)(node depth:V):M Fl:=
M.bind (getA K node "items") λ t55=>M.bind (binV .Add depth (V.int 1)) λ t57=>M.bind (call 532 [t55,t57] []) λ t53=>M.pure (.ret (V.tup [(V.int 11),t53]))
abbrev c_520_9(K:Frag)(node:V):M Fl:=
M.bind (getA K node "octets") λ t66=>M.bind (bcall (.type "tuple") [t66]) λ t64=>M.pure (.ret (V.tup [(V.int 13),t64]))
abbrev c_520_10(call:CallT)(depth t98 t104:V):M Fl:=
M.bind (binV .Add depth (V.int 1)) λ t106=>M.bind (call 532 [t104,t106] []) λ t102=>M.bind (binV .Add t98 (V.tup [t102])) λ t97=>M.pure (.ret t97)
abbrev c_520_11(K:Frag)(call:CallT)(node depth t72 t75 t80 t86 t88 t90 t92 t94:V):M Fl:=
M.bind (binV .Add (V.tup [(V.int 14)]) (V.tup [t86,t88,t90,t92,t94])) λ t99=>M.bind (binV .Add t99 (V.tup [t72,t75,t80])) λ t98=>M.bind (getA K node "items") (c_520_10 call depth t98)
abbrev c_520_12(K:Frag)(call:CallT)(node depth t72 t75 t80 t86 t88 t90 t92:V):M Fl:=
M.bind (getA K node "is_vertical") λ t95=>M.bind (asB t95) λ b96=>M.bind (if b96 then M.pure (V.int 1) else M.pure (V.int 0)) (c_520_11 K call node depth t72 t75 t80 t86 t88 t90 t92)
abbrev c_520_13(K:Frag)(call:CallT)(node depth t72 t75 t80 t86:V):M Fl:=
M.bind (getA K node "height") λ t88=>M.bind (getA K node "depth") λ t90=>M.bind (getA K node "spans") (c_520_12 K call node depth t72 t75 t80 t86 t88 t90)
abbrev c_520_14(K:Frag)(call:CallT)(node depth t72 t75 t83:V):M Fl:=
M.bind (getA K t83 "shrink") λ t82=>M.bind (bcall (.type "tuple") [t82]) λ t80=>M.bind (getA K node "width") (c_520_13 K call node depth t72 t75 t80)
abbrev c_520_15(K:Frag)(call:CallT)(node depth t72 t78:V):M Fl:=
M.bind (getA K t78 "stretch") λ t77=>M.bind (bcall (.type "tuple") [t77]) λ t75=>M.bind (getA K node "totals") (c_520_14 K call node depth t72 t75)
abbrev c_520_16(K:Frag)(call:CallT)(node depth:V):M Fl:=
M.bind (getA K node "totals") λ t73=>M.bind (getA K t73 "natural") λ t72=>M.bind (getA K node "totals") (c_520_15 K call node depth t72)
abbrev c_520_17(K:Frag)(call:CallT)(node depth t0:V):M Fl:=
M.bind (cmpV .Eq t0 (V.int 14)) λ r68=>if r68 then(c_520_16 K call node depth) else no
abbrev c_520_18(K:Frag)(call:CallT)(node depth t0:V):M Fl:=
M.bind (cmpV .Eq t0 (V.int 13)) λ r59=>if r59 then(c_520_9 K node) else(c_520_17 K call node depth t0)
abbrev c_520_19(K:Frag)(call:CallT)(node depth t0:V):M Fl:=
M.bind (cmpV .Eq t0 (V.int 11)) λ r48=>if r48 then(c_520_8 K call node depth) else(c_520_18 K call node depth t0)
abbrev c_520_20(K:Frag)(call:CallT)(node depth t0:V):M Fl:=
M.bind (cmpV .Eq t0 (V.int 10)) λ r25=>if r25 then(c_520_7 K call node depth) else(c_520_19 K call node depth t0)
abbrev c_520(K:Frag)(call:CallT)(node depth:V):M Fl:=
M.bind (getA K node "kind") λ t0=>M.bind (cmpV .Eq t0 (V.int 8)) λ r2=>if r2 then(c_520_3 K call node depth) else(c_520_20 K call node depth t0)
abbrev c_526_1(K:Frag)(node:V):M Fl:=
M.bind (getA K node "font") λ t8=>M.bind (getA K t8 "number") λ t7=>M.bind (getA K node "code") λ t10=>M.pure (.ret (V.tup [(V.int 0),t7,t10]))
abbrev c_526_2(t17 t20 t22 t24:V)(b30:Bool):M Fl:=
M.bind (if b30 then M.pure (V.int 1) else M.pure (V.int 0)) λ t28=>M.pure (.ret (V.tup [(V.int 1),t17,t20,t22,t24,t28]))
abbrev c_526_3(K:Frag)(node t17 t20 t22:V)(b26:Bool):M Fl:=
M.bind (if b26 then M.pure (V.int 1) else M.pure (V.int 0)) λ t24=>M.bind (getA K node "right") λ t29=>M.bind (asB t29) (c_526_2 t17 t20 t22 t24)
abbrev c_526_4(K:Frag)(node t17 t20:V):M Fl:=
M.bind (getA K node "parts") λ t22=>M.bind (getA K node "left") λ t25=>M.bind (asB t25) (c_526_3 K node t17 t20 t22)
abbrev c_526_5(K:Frag)(node:V):M Fl:=
M.bind (getA K node "font") λ t18=>M.bind (getA K t18 "number") λ t17=>M.bind (getA K node "code") (c_526_4 K node t17)
abbrev c_526_6(t0:V):M V:=
M.bind (cmpV .Eq t0 (V.int 3)) λ r36=>M.pure (V.bool r36)
abbrev c_526_7(K:Frag)(call:CallT)(node depth t0 t41 t43 t45 t47 t49 t51:V):M Fl:=
M.bind (getA K node "ratio") λ t53=>M.bind (binV .Add (V.tup [t0]) (V.tup [t41,t43,t45,t47,t49,t51,t53])) λ t55=>M.bind (getA K node "items") (c_520_10 call depth t55)
abbrev c_526_8(K:Frag)(call:CallT)(node depth t0 t41 t43 t45:V):M Fl:=
M.bind (getA K node "shift") λ t47=>M.bind (getA K node "sign") λ t49=>M.bind (getA K node "order") (c_526_7 K call node depth t0 t41 t43 t45 t47 t49)
abbrev c_526_9(K:Frag)(call:CallT)(node depth t0:V):M Fl:=
M.bind (getA K node "width") λ t41=>M.bind (getA K node "height") λ t43=>M.bind (getA K node "depth") (c_526_8 K call node depth t0 t41 t43)
abbrev c_526_10(v78:V):M (Option V):=
M.bind (cmpV .Is v78 V.none) λ r82=>M.bind (if r82 then M.pure (V.tup []) else M.pure (V.tup [v78])) λ t80=>M.pure (some t80)
abbrev c_526_11(t69:V):M Fl:=
M.bind (bcall (.type "tuple") [t69]) λ t67=>M.bind (binV .Add (V.tup [(V.int 4)]) t67) λ t66=>M.pure (.ret t66)
abbrev c_526_12(t72 t74 t76:V):M Fl:=
M.bind (toSrc (V.tup [t72,t74,t76])) λ src77=>M.bind (compLoop 200 src77 0 (c_526_10)) λ vs79=>M.bind (alloc (.list vs79)) (c_526_11)
abbrev c_526_13(K:Frag)(node:V):M Fl:=
M.bind (getA K node "width") λ t72=>M.bind (getA K node "height") λ t74=>M.bind (getA K node "depth") (c_526_12 t72 t74)
abbrev c_526_14(K:Frag)(node:V):M Fl:=
M.bind (getA K node "width") λ t90=>M.bind (getA K node "sort") λ t92=>M.pure (.ret (V.tup [(V.int 5),t90,t92]))
abbrev c_526_15(K:Frag)(call:CallT)(node depth:V):M V:=
M.bind (getA K node "leader") λ t111=>M.bind (binV .Add depth (V.int 1)) λ t113=>call 526 [t111,t113] []
abbrev c_526_16(K:Frag)(call:CallT)(node depth t99 t103:V)(r108:Bool):M Fl:=
M.bind (if r108 then M.pure (V.tup []) else(c_526_15 K call node depth)) λ t105=>M.pure (.ret (V.tup [(V.int 6),t99,t103,t105]))
abbrev c_526_17(K:Frag)(call:CallT)(node depth t99:V):M Fl:=
M.bind (getA K node "sort") λ t103=>M.bind (getA K node "leader") λ t107=>M.bind (cmpV .Is t107 V.none) (c_526_16 K call node depth t99 t103)
abbrev c_526_18(K:Frag)(call:CallT)(node depth:V):M Fl:=
M.bind (getA K node "glue") λ t100=>M.bind (methF K t100 "parts") λ mk101=>M.bind (methC call mk101 t100 []) (c_526_17 K call node depth)
abbrev c_526_19(K:Frag)(node:V):M Fl:=
M.bind (getA K node "value") λ t120=>M.pure (.ret (V.tup [(V.int 7),t120]))
abbrev c_526_20(K:Frag)(node:V):M Fl:=
M.bind (getA K node "tokens") λ t127=>M.pure (.ret (V.tup [(V.int 9),t127]))
abbrev c_526_21(K:Frag)(node t134:V):M Fl:=
M.bind (getA K node "width") λ t138=>M.pure (.ret (V.tup [(V.int 12),t134,t138]))
abbrev c_526_22(K:Frag)(node:V):M Fl:=
M.bind (getA K node "is_on") λ t135=>M.bind (asB t135) λ b136=>M.bind (if b136 then M.pure (V.int 1) else M.pure (V.int 0)) (c_526_21 K node)
abbrev c_526_23(call:CallT)(node depth:V):M Fl:=
M.bind (call 520 [node,depth] []) λ t139=>M.pure (.ret t139)
abbrev c_526_24(K:Frag)(call:CallT)(node depth t0:V):M Fl:=
M.bind (cmpV .Eq t0 (V.int 12)) λ r129=>if r129 then(c_526_22 K node) else(c_526_23 call node depth)
abbrev c_526_25(K:Frag)(call:CallT)(node depth t0:V):M Fl:=
M.bind (cmpV .Eq t0 (V.int 9)) λ r122=>if r122 then(c_526_20 K node) else(c_526_24 K call node depth t0)
abbrev c_526_26(K:Frag)(call:CallT)(node depth t0:V):M Fl:=
M.bind (cmpV .Eq t0 (V.int 7)) λ r115=>if r115 then(c_526_19 K node) else(c_526_25 K call node depth t0)
abbrev c_526_27(K:Frag)(call:CallT)(node depth t0:V):M Fl:=
M.bind (cmpV .Eq t0 (V.int 6)) λ r94=>if r94 then(c_526_18 K call node depth) else(c_526_26 K call node depth t0)
abbrev c_526_28(K:Frag)(call:CallT)(node depth t0:V):M Fl:=
M.bind (cmpV .Eq t0 (V.int 5)) λ r85=>if r85 then(c_526_14 K node) else(c_526_27 K call node depth t0)
abbrev c_526_29(K:Frag)(call:CallT)(node depth t0:V):M Fl:=
M.bind (cmpV .Eq t0 (V.int 4)) λ r64=>if r64 then(c_526_13 K node) else(c_526_28 K call node depth t0)
abbrev c_526_30(K:Frag)(call:CallT)(node depth t0:V)(b38:Bool):M Fl:=
if b38 then(c_526_9 K call node depth t0) else(c_526_29 K call node depth t0)
abbrev c_526_31(K:Frag)(call:CallT)(node depth t0:V):M Fl:=
M.bind (cmpV .Eq t0 (V.int 2)) λ r33=>M.bind (if r33 then M.pure (V.bool true) else(c_526_6 t0)) λ t31=>M.bind (asB t31) (c_526_30 K call node depth t0)
abbrev c_526_32(K:Frag)(call:CallT)(node depth t0:V):M Fl:=
M.bind (cmpV .Eq t0 (V.int 1)) λ r12=>if r12 then(c_526_5 K node) else(c_526_31 K call node depth t0)
abbrev c_526_33(K:Frag)(call:CallT)(node depth t0:V)(r2:Bool):M Fl:=
if r2 then(c_526_1 K node) else(c_526_32 K call node depth t0)
abbrev c_526(K:Frag)(call:CallT)(node depth:V):M Fl:=
M.bind (call 513 [depth] []) λ _=>M.bind (getA K node "kind") λ t0=>M.bind (cmpV .Eq t0 (V.int 0)) (c_526_33 K call node depth t0)
abbrev c_532_1(call:CallT)(depth v4:V):M (Option V):=
M.bind (call 526 [v4,depth] []) λ t6=>M.pure (some t6)
abbrev c_532_2(t2:V):M Fl:=
M.bind (bcall (.type "tuple") [t2]) λ t0=>M.pure (.ret t0)
abbrev c_532(K:Frag)(call:CallT)(items depth:V):M Fl:=
M.bind (toSrc items) λ src3=>M.bind (compLoop 200 src3 0 (c_532_1 call depth)) λ vs5=>M.bind (alloc (.list vs5)) (c_532_2)
abbrev c_537_1(t0:V):M V:=
M.bind (cmpV .Eq t0 (V.int 1)) λ r6=>M.pure (V.bool r6)
abbrev c_537_2(call:CallT)(t10:V)(mk11:Mk)(t13:V):M Fl:=
M.bind (methC call mk11 t10 [t13]) λ t9=>M.pure (.ret t9)
abbrev c_537_3(K:Frag)(call:CallT)(node:V):M Fl:=
M.bind (getA K node "font") λ t10=>M.bind (methF K t10 "width") λ mk11=>M.bind (getA K node "code") (c_537_2 call t10 mk11)
abbrev c_537_4(t0:V):M V:=
M.bind (cmpV .Eq t0 (V.int 14)) λ r28=>M.pure (V.bool r28)
abbrev c_537_5(t0:V):M V:=
M.bind (cmpV .Eq t0 (V.int 12)) λ r25=>if r25 then M.pure (V.bool true) else(c_537_4 t0)
abbrev c_537_6(t0:V):M V:=
M.bind (cmpV .Eq t0 (V.int 5)) λ r22=>if r22 then M.pure (V.bool true) else(c_537_5 t0)
abbrev c_537_7(t0:V):M V:=
M.bind (cmpV .Eq t0 (V.int 3)) λ r19=>if r19 then M.pure (V.bool true) else(c_537_6 t0)
abbrev c_537_8(K:Frag)(node:V):M Fl:=
M.bind (getA K node "width") λ t31=>M.pure (.ret t31)
abbrev c_537_9(K:Frag)(node:V):M Fl:=
M.bind (getA K node "width") λ t37=>M.bind (cmpV .Is t37 V.none) λ r38=>M.bind (if r38 then M.pure (V.int 0) else getA K node "width") λ t35=>M.pure (.ret t35)
abbrev c_537_10(K:Frag)(node:V):M Fl:=
M.bind (getA K node "glue") λ t44=>M.bind (getA K t44 "width") λ t43=>M.pure (.ret t43)
abbrev c_537_11(call:CallT)(v53:V):M (Option V):=
M.bind (call 537 [v53] []) λ t55=>M.pure (some t55)
abbrev c_537_12(vs54:List V):M Fl:=
M.bind (alloc (.list vs54)) λ t50=>M.bind (bcall (.builtin "sum") [t50]) λ t48=>M.pure (.ret t48)
abbrev c_537_13(K:Frag)(call:CallT)(node:V):M Fl:=
M.bind (getA K node "middle") λ t51=>M.bind (toSrc t51) λ src52=>M.bind (compLoop 200 src52 0 (c_537_11 call)) (c_537_12)
abbrev c_537_14(K:Frag)(call:CallT)(node t0:V):M Fl:=
M.bind (cmpV .Eq t0 (V.int 8)) λ r46=>if r46 then(c_537_13 K call node) else M.pure (.ret (V.int 0))
abbrev c_537_15(K:Frag)(call:CallT)(node t0:V):M Fl:=
M.bind (cmpV .Eq t0 (V.int 6)) λ r41=>if r41 then(c_537_10 K node) else(c_537_14 K call node t0)
abbrev c_537_16(K:Frag)(call:CallT)(node t0:V):M Fl:=
M.bind (cmpV .Eq t0 (V.int 4)) λ r33=>if r33 then(c_537_9 K node) else(c_537_15 K call node t0)
abbrev c_537_17(K:Frag)(call:CallT)(node t0:V)(b30:Bool):M Fl:=
if b30 then(c_537_8 K node) else(c_537_16 K call node t0)
abbrev c_537_18(K:Frag)(call:CallT)(node t0:V):M Fl:=
M.bind (cmpV .Eq t0 (V.int 2)) λ r16=>M.bind (if r16 then M.pure (V.bool true) else(c_537_7 t0)) λ t14=>M.bind (asB t14) (c_537_17 K call node t0)
abbrev c_537_19(K:Frag)(call:CallT)(node t0 t1:V):M Fl:=
M.bind (asB t1) λ b8=>if b8 then(c_537_3 K call node) else(c_537_18 K call node t0)
abbrev c_537(K:Frag)(call:CallT)(node:V):M Fl:=
M.bind (getA K node "kind") λ t0=>M.bind (cmpV .Eq t0 (V.int 0)) λ r3=>M.bind (if r3 then M.pure (V.bool true) else(c_537_1 t0)) (c_537_19 K call node t0)
abbrev c_542_1(K:Frag)(call:CallT)(node:V):M Fl:=
M.bind (getA K node "font") λ t10=>M.bind (methF K t10 "height") λ mk11=>M.bind (getA K node "code") (c_537_2 call t10 mk11)
abbrev c_542_2(t0:V):M V:=
M.bind (cmpV .Eq t0 (V.int 3)) λ r19=>if r19 then M.pure (V.bool true) else(c_537_4 t0)
abbrev c_542_3(K:Frag)(node:V):M Fl:=
M.bind (getA K node "height") λ t25=>M.pure (.ret t25)
abbrev c_542_4(K:Frag)(node:V):M Fl:=
M.bind (getA K node "height") λ t31=>M.bind (cmpV .Is t31 V.none) λ r32=>M.bind (if r32 then M.pure (V.int 0) else getA K node "height") λ t29=>M.pure (.ret t29)
abbrev c_542_5(K:Frag)(node:V):M V:=
M.bind (getA K node "leader") λ t39=>M.bind (cmpV .IsNot t39 V.none) λ r40=>M.pure (V.bool r40)
abbrev c_542_6(K:Frag)(call:CallT)(node:V):M Fl:=
M.bind (getA K node "leader") λ t45=>M.bind (call 542 [t45] []) λ t43=>M.pure (.ret t43)
abbrev c_542_7(call:CallT)(v56:V):M (Option V):=
M.bind (call 554 [v56] []) λ t58=>M.pure (some t58)
abbrev c_542_8(t51:V):M Fl:=
M.bind (bcall (.builtin "max") [t51]) λ t49=>M.pure (.ret t49)
abbrev c_542_9(call:CallT)(t52:V)(src55:Src):M Fl:=
M.bind (compLoop 200 src55 0 (c_542_7 call)) λ vs57=>M.bind (alloc (.list vs57)) λ t53=>M.bind (binV .Add t52 t53) (c_542_8)
abbrev c_542_10(K:Frag)(call:CallT)(node:V):M Fl:=
M.bind (alloc (.list [(V.int 0)])) λ t52=>M.bind (getA K node "middle") λ t54=>M.bind (toSrc t54) (c_542_9 call t52)
abbrev c_542_11(K:Frag)(call:CallT)(node t0:V):M Fl:=
M.bind (cmpV .Eq t0 (V.int 8)) λ r47=>if r47 then(c_542_10 K call node) else M.pure (.ret (V.int 0))
abbrev c_542_12(K:Frag)(call:CallT)(node t0:V)(b42:Bool):M Fl:=
if b42 then(c_542_6 K call node) else(c_542_11 K call node t0)
abbrev c_542_13(K:Frag)(call:CallT)(node t0:V):M Fl:=
M.bind (cmpV .Eq t0 (V.int 6)) λ r36=>M.bind (if r36 then(c_542_5 K node) else M.pure (V.bool false)) λ t34=>M.bind (asB t34) (c_542_12 K call node t0)
abbrev c_542_14(K:Frag)(call:CallT)(node t0:V):M Fl:=
M.bind (cmpV .Eq t0 (V.int 4)) λ r27=>if r27 then(c_542_4 K node) else(c_542_13 K call node t0)
abbrev c_542_15(K:Frag)(call:CallT)(node t0:V)(b24:Bool):M Fl:=
if b24 then(c_542_3 K node) else(c_542_14 K call node t0)
abbrev c_542_16(K:Frag)(call:CallT)(node t0:V):M Fl:=
M.bind (cmpV .Eq t0 (V.int 2)) λ r16=>M.bind (if r16 then M.pure (V.bool true) else(c_542_2 t0)) λ t14=>M.bind (asB t14) (c_542_15 K call node t0)
abbrev c_542_17(K:Frag)(call:CallT)(node t0 t1:V):M Fl:=
M.bind (asB t1) λ b8=>if b8 then(c_542_1 K call node) else(c_542_16 K call node t0)
abbrev c_542(K:Frag)(call:CallT)(node:V):M Fl:=
M.bind (getA K node "kind") λ t0=>M.bind (cmpV .Eq t0 (V.int 0)) λ r3=>M.bind (if r3 then M.pure (V.bool true) else(c_537_1 t0)) (c_542_17 K call node t0)
abbrev c_547_1(K:Frag)(call:CallT)(node:V):M Fl:=
M.bind (getA K node "font") λ t10=>M.bind (methF K t10 "depth") λ mk11=>M.bind (getA K node "code") (c_537_2 call t10 mk11)
abbrev c_547_2(K:Frag)(node:V):M Fl:=
M.bind (getA K node "depth") λ t25=>M.pure (.ret t25)
abbrev c_547_3(K:Frag)(node:V):M Fl:=
M.bind (getA K node "depth") λ t31=>M.bind (cmpV .Is t31 V.none) λ r32=>M.bind (if r32 then M.pure (V.int 0) else getA K node "depth") λ t29=>M.pure (.ret t29)
abbrev c_547_4(K:Frag)(call:CallT)(node:V):M Fl:=
M.bind (getA K node "leader") λ t45=>M.bind (call 547 [t45] []) λ t43=>M.pure (.ret t43)
abbrev c_547_5(call:CallT)(v56:V):M (Option V):=
M.bind (call 561 [v56] []) λ t58=>M.pure (some t58)
abbrev c_547_6(call:CallT)(t52:V)(src55:Src):M Fl:=
M.bind (compLoop 200 src55 0 (c_547_5 call)) λ vs57=>M.bind (alloc (.list vs57)) λ t53=>M.bind (binV .Add t52 t53) (c_542_8)
abbrev c_547_7(K:Frag)(call:CallT)(node:V):M Fl:=
M.bind (alloc (.list [(V.int 0)])) λ t52=>M.bind (getA K node "middle") λ t54=>M.bind (toSrc t54) (c_547_6 call t52)
abbrev c_547_8(K:Frag)(call:CallT)(node t0:V):M Fl:=
M.bind (cmpV .Eq t0 (V.int 8)) λ r47=>if r47 then(c_547_7 K call node) else M.pure (.ret (V.int 0))
abbrev c_547_9(K:Frag)(call:CallT)(node t0:V)(b42:Bool):M Fl:=
if b42 then(c_547_4 K call node) else(c_547_8 K call node t0)
abbrev c_547_10(K:Frag)(call:CallT)(node t0:V):M Fl:=
M.bind (cmpV .Eq t0 (V.int 6)) λ r36=>M.bind (if r36 then(c_542_5 K node) else M.pure (V.bool false)) λ t34=>M.bind (asB t34) (c_547_9 K call node t0)
abbrev c_547_11(K:Frag)(call:CallT)(node t0:V):M Fl:=
M.bind (cmpV .Eq t0 (V.int 4)) λ r27=>if r27 then(c_547_3 K node) else(c_547_10 K call node t0)
abbrev c_547_12(K:Frag)(call:CallT)(node t0:V)(b24:Bool):M Fl:=
if b24 then(c_547_2 K node) else(c_547_11 K call node t0)
abbrev c_547_13(K:Frag)(call:CallT)(node t0:V):M Fl:=
M.bind (cmpV .Eq t0 (V.int 2)) λ r16=>M.bind (if r16 then M.pure (V.bool true) else(c_542_2 t0)) λ t14=>M.bind (asB t14) (c_547_12 K call node t0)
abbrev c_547_14(K:Frag)(call:CallT)(node t0 t1:V):M Fl:=
M.bind (asB t1) λ b8=>if b8 then(c_547_1 K call node) else(c_547_13 K call node t0)
abbrev c_547(K:Frag)(call:CallT)(node:V):M Fl:=
M.bind (getA K node "kind") λ t0=>M.bind (cmpV .Eq t0 (V.int 0)) λ r3=>M.bind (if r3 then M.pure (V.bool true) else(c_537_1 t0)) (c_547_14 K call node t0)
abbrev c_554_1(K:Frag)(node:V):M V:=
M.bind (getA K node "kind") λ t6=>M.bind (cmpV .Eq t6 (V.int 3)) λ r7=>M.pure (V.bool r7)
abbrev c_554_2(K:Frag)(node:V):M Fl:=
M.bind (getA K node "height") λ t11=>M.bind (getA K node "shift") λ t12=>M.bind (binV .Sub t11 t12) λ t10=>M.pure (.ret t10)
abbrev c_554_3(call:CallT)(node:V):M Fl:=
M.bind (call 542 [node] []) λ t13=>M.pure (.ret t13)
abbrev c_554_4(K:Frag)(call:CallT)(node t0:V):M Fl:=
M.bind (asB t0) λ b9=>if b9 then(c_554_2 K node) else(c_554_3 call node)
abbrev c_554(K:Frag)(call:CallT)(node:V):M Fl:=
M.bind (getA K node "kind") λ t2=>M.bind (cmpV .Eq t2 (V.int 2)) λ r3=>M.bind (if r3 then M.pure (V.bool true) else(c_554_1 K node)) (c_554_4 K call node)
abbrev c_561_1(K:Frag)(node:V):M Fl:=
M.bind (getA K node "depth") λ t11=>M.bind (getA K node "shift") λ t12=>M.bind (binV .Add t11 t12) λ t10=>M.pure (.ret t10)
abbrev c_561_2(call:CallT)(node:V):M Fl:=
M.bind (call 547 [node] []) λ t13=>M.pure (.ret t13)
abbrev c_561_3(K:Frag)(call:CallT)(node t0:V):M Fl:=
M.bind (asB t0) λ b9=>if b9 then(c_561_1 K node) else(c_561_2 call node)
abbrev c_561(K:Frag)(call:CallT)(node:V):M Fl:=
M.bind (getA K node "kind") λ t2=>M.bind (cmpV .Eq t2 (V.int 2)) λ r3=>M.bind (if r3 then M.pure (V.bool true) else(c_554_1 K node)) (c_561_3 K call node)
abbrev c_568_1(K:Frag)(node:V):M V:=
M.bind (getA K node "kind") λ t14=>M.bind (cmpV .Eq t14 (V.int 12)) λ r15=>M.pure (V.bool r15)
abbrev c_568_2(K:Frag)(node:V):M V:=
M.bind (getA K node "kind") λ t10=>M.bind (cmpV .Eq t10 (V.int 7)) λ r11=>if r11 then M.pure (V.bool true) else(c_568_1 K node)
abbrev c_568_3(K:Frag)(node:V):M V:=
M.bind (getA K node "kind") λ t6=>M.bind (cmpV .Eq t6 (V.int 5)) λ r7=>if r7 then M.pure (V.bool true) else(c_568_2 K node)
abbrev c_568(K:Frag)(call:CallT)(node:V):M Fl:=
M.bind (getA K node "kind") λ t2=>M.bind (cmpV .Eq t2 (V.int 6)) λ r3=>M.bind (if r3 then M.pure (V.bool true) else(c_568_3 K node)) λ t0=>M.pure (.ret t0)
abbrev c_575(K:Frag)(call:CallT)(node:V):M Fl:=
M.bind (call 568 [node] []) λ t1=>M.bind (unV .Not t1) λ t0=>M.pure (.ret t0)
abbrev c_590_1(K:Frag)(node:V):M Fl:=
M.bind (getA K node "width") λ t11=>M.bind (getA K node "shift") λ t12=>M.bind (binV .Add t11 t12) λ t10=>M.pure (.ret t10)
abbrev c_590_2(K:Frag)(call:CallT)(node:V):M V:=
M.bind (getA K node "leader") λ t23=>call 537 [t23] []
abbrev c_590_3(K:Frag)(call:CallT)(node:V):M Fl:=
M.bind (getA K node "leader") λ t19=>M.bind (cmpV .Is t19 V.none) λ r20=>M.bind (if r20 then M.pure (V.int 0) else(c_590_2 K call node)) λ t17=>M.pure (.ret t17)
abbrev c_590_4(K:Frag)(call:CallT)(node:V):M Fl:=
M.bind (getA K node "kind") λ t26=>M.bind (cmpV .Eq t26 (V.int 5)) λ r27=>M.bind (if r27 then M.pure (V.int 0) else call 537 [node] []) λ t24=>M.pure (.ret t24)
abbrev c_590_5(K:Frag)(call:CallT)(node:V):M Fl:=
M.bind (getA K node "kind") λ t14=>M.bind (cmpV .Eq t14 (V.int 6)) λ r15=>if r15 then(c_590_3 K call node) else(c_590_4 K call node)
abbrev c_590_6(K:Frag)(call:CallT)(node t0:V):M Fl:=
M.bind (asB t0) λ b9=>if b9 then(c_590_1 K node) else(c_590_5 K call node)
abbrev c_590(K:Frag)(call:CallT)(node:V):M Fl:=
M.bind (getA K node "kind") λ t2=>M.bind (cmpV .Eq t2 (V.int 2)) λ r3=>M.bind (if r3 then M.pure (V.bool true) else(c_554_1 K node)) (c_590_6 K call node)
abbrev c_597_1(K:Frag)(ρ902:Lo)(k4:Lo→M Fl):M Fl:=
M.bind (M.bind (M.bind (M.bind (ofO (lk "node" ρ902)) λ t9=>getA K t9 "kind") λ t8=>M.bind (cmpV .Eq t8 (V.int 0)) λ r10=>M.pure (V.bool r10)) λ t7=>M.bind (asB t7) λ b11=>if b11 then M.pure (V.bool true) else M.bind (M.bind (M.bind (ofO (lk "node" ρ902)) λ t14=>getA K t14 "kind") λ t13=>M.bind (cmpV .Eq t13 (V.int 1)) λ r15=>M.pure (V.bool r15)) λ t12=>M.bind (asB t12) λ b16=>if b16 then M.pure (V.bool true) else M.bind (M.bind (M.bind (ofO (lk "node" ρ902)) λ t19=>getA K t19 "kind") λ t18=>M.bind (cmpV .Eq t18 (V.int 8)) λ r20=>M.pure (V.bool r20)) λ t17=>M.bind (asB t17) λ b21=>if b21 then M.pure (V.bool true) else M.bind (M.bind (M.bind (ofO (lk "node" ρ902)) λ t24=>getA K t24 "kind") λ t23=>M.bind (cmpV .Eq t23 (V.int 12)) λ r25=>M.pure (V.bool r25)) λ t22=>M.bind (asB t22) λ b26=>M.pure (V.bool b26)) (c_499_1 ρ902 k4)
abbrev c_597_2(K:Frag)(v1:V)(ρ2:Lo)(k3:Lo→M Fl):M Fl:=
jp k3 (c_597_1 K (put "node" v1 ρ2))
abbrev c_597(K:Frag)(call:CallT)(items:V):M Fl:=
M.bind (toSrc items) λ src0=>forLoop 200 src0 0 [("items",items)] (c_597_2 K) (λ ρ28=>M.pure (.next ρ28))
abbrev c_604_1(K:Frag)(call:CallT)(ρ901:Lo)(k12:Lo→M Fl):M Fl:=
M.bind (M.bind (ofO (lk "totals" ρ901)) λ t23=>M.bind (methF K t23 "add") λ mk24=>M.bind (M.bind (M.bind (ofO (lk "node" ρ901)) λ t27=>getA K t27 "glue") λ t26=>M.pure [t26]) λ vs25=>methC call mk24 t23 vs25) λ _=>k12 (put "depth" (V.int 0) ρ901)
abbrev c_604_2(K:Frag)(call:CallT)(ρ902:Lo)(k12:Lo→M Fl):M Fl:=
M.bind (M.bind (ofO (lk "totals" ρ902)) λ t19=>M.bind (methF K t19 "widen") λ mk20=>M.bind (M.bind (ofO (lk "depth" ρ902)) λ t22=>M.pure [t22]) λ vs21=>methC call mk20 t19 vs21) λ _=>c_604_1 K call ρ902 k12
abbrev c_604_3(K:Frag)(call:CallT)(ρ903:Lo)(k28:Lo→M Fl):M Fl:=
M.bind (M.bind (ofO (lk "totals" ρ903)) λ t35=>M.bind (methF K t35 "widen") λ mk36=>M.bind (M.bind (M.bind (ofO (lk "depth" ρ903)) λ t39=>M.bind (M.bind (ofO (lk "node" ρ903)) λ t41=>getA K t41 "width") λ t40=>binV .Add t39 t40) λ t38=>M.pure [t38]) λ vs37=>methC call mk36 t35 vs37) λ _=>k28 (put "depth" (V.int 0) ρ903)
abbrev c_604_4(call:CallT)(ρ904:Lo)(k42:Lo→M Fl):M Fl:=
M.bind (M.bind (M.bind (ofO (lk "node" ρ904)) λ t76=>M.pure [t76]) λ vs75=>call 547 vs75 []) λ t74=>k42 (put "depth" t74 ρ904)
abbrev c_604_5(K:Frag)(call:CallT)(ρ905:Lo)(k42:Lo→M Fl):M Fl:=
M.bind (M.bind (ofO (lk "totals" ρ905)) λ t66=>M.bind (methF K t66 "widen") λ mk67=>M.bind (M.bind (M.bind (ofO (lk "depth" ρ905)) λ t70=>M.bind (M.bind (M.bind (ofO (lk "node" ρ905)) λ t73=>M.pure [t73]) λ vs72=>call 542 vs72 []) λ t71=>binV .Add t70 t71) λ t69=>M.pure [t69]) λ vs68=>methC call mk67 t66 vs68) λ _=>c_604_4 call ρ905 k42
abbrev c_604_6(K:Frag)(call:CallT)(ρ906:Lo)(k42:Lo→M Fl)(t44:V):M Fl:=
M.bind (asB t44) λ b65=>if b65 then(c_604_5 K call ρ906 k42) else k42 ρ906
abbrev c_604_7(K:Frag)(call:CallT)(ρ907:Lo)(k42:Lo→M Fl):M Fl:=
M.bind (M.bind (M.bind (M.bind (ofO (lk "node" ρ907)) λ t47=>getA K t47 "kind") λ t46=>M.bind (cmpV .Eq t46 (V.int 2)) λ r48=>M.pure (V.bool r48)) λ t45=>M.bind (asB t45) λ b49=>if b49 then M.pure (V.bool true) else M.bind (M.bind (M.bind (ofO (lk "node" ρ907)) λ t52=>getA K t52 "kind") λ t51=>M.bind (cmpV .Eq t51 (V.int 3)) λ r53=>M.pure (V.bool r53)) λ t50=>M.bind (asB t50) λ b54=>if b54 then M.pure (V.bool true) else M.bind (M.bind (M.bind (ofO (lk "node" ρ907)) λ t57=>getA K t57 "kind") λ t56=>M.bind (cmpV .Eq t56 (V.int 4)) λ r58=>M.pure (V.bool r58)) λ t55=>M.bind (asB t55) λ b59=>if b59 then M.pure (V.bool true) else M.bind (M.bind (M.bind (ofO (lk "node" ρ907)) λ t62=>getA K t62 "kind") λ t61=>M.bind (cmpV .Eq t61 (V.int 14)) λ r63=>M.pure (V.bool r63)) λ t60=>M.bind (asB t60) λ b64=>M.pure (V.bool b64)) (c_604_6 K call ρ907 k42)
abbrev c_604_8(K:Frag)(call:CallT)(ρ908:Lo)(k28:Lo→M Fl):M Fl:=
jp k28 (c_604_7 K call ρ908)
abbrev c_604_9(K:Frag)(call:CallT)(ρ909:Lo)(k28:Lo→M Fl)(t30:V):M Fl:=
M.bind (asB t30) λ b34=>if b34 then(c_604_3 K call ρ909 k28) else(c_604_8 K call ρ909 k28)
abbrev c_604_10(K:Frag)(call:CallT)(ρ910:Lo)(k28:Lo→M Fl):M Fl:=
M.bind (M.bind (M.bind (ofO (lk "node" ρ910)) λ t32=>getA K t32 "kind") λ t31=>M.bind (cmpV .Eq t31 (V.int 5)) λ r33=>M.pure (V.bool r33)) (c_604_9 K call ρ910 k28)
abbrev c_604_11(K:Frag)(call:CallT)(ρ911:Lo)(k12:Lo→M Fl):M Fl:=
jp k12 (c_604_10 K call ρ911)
abbrev c_604_12(K:Frag)(call:CallT)(ρ912:Lo)(k12:Lo→M Fl)(t14:V):M Fl:=
M.bind (asB t14) λ b18=>if b18 then(c_604_2 K call ρ912 k12) else(c_604_11 K call ρ912 k12)
abbrev c_604_13(K:Frag)(call:CallT)(ρ913:Lo)(k12:Lo→M Fl):M Fl:=
M.bind (M.bind (M.bind (ofO (lk "node" ρ913)) λ t16=>getA K t16 "kind") λ t15=>M.bind (cmpV .Eq t15 (V.int 6)) λ r17=>M.pure (V.bool r17)) (c_604_12 K call ρ913 k12)
abbrev c_604_14(K:Frag)(call:CallT)(ρ914:Lo)(k4:Lo→M Fl)(t5:V):M Fl:=
jp k4 (c_604_13 K call (put "width" t5 ρ914))
abbrev c_604_15(K:Frag)(call:CallT)(v2:V)(ρ3:Lo)(k4:Lo→M Fl):M Fl:=
M.bind (M.bind (M.bind (ofO (lk "width" (put "node" v2 ρ3))) λ t7=>M.bind (M.bind (M.bind (M.bind (ofO (lk "node" (put "node" v2 ρ3))) λ t11=>M.pure [t11]) λ vs10=>call 590 vs10 []) λ t9=>M.pure [t9]) λ vs8=>M.pure (t7::vs8)) λ vs6=>bcall (.builtin "max") vs6) (c_604_14 K call (put "node" v2 ρ3) k4)
abbrev c_604_16(ρ77:Lo):M Fl:=
M.bind (M.bind (M.bind (ofO (lk "totals" ρ77)) λ t80=>M.bind (M.bind (ofO (lk "width" ρ77)) λ t82=>M.bind (M.bind (ofO (lk "depth" ρ77)) λ t84=>M.pure [t84]) λ vs83=>M.pure (t82::vs83)) λ vs81=>M.pure (t80::vs81)) λ vs79=>if vs79.length≤1000 then M.pure (V.tup vs79) else no) λ t78=>M.pure (.ret t78)
abbrev c_604_17(K:Frag)(call:CallT)(items t0:V)(src1:Src):M Fl:=
forLoop 200 src1 0 [("items",items),("totals",t0),("width",(V.int 0)),("depth",(V.int 0))] (c_604_15 K call) (c_604_16)
abbrev c_604(K:Frag)(call:CallT)(items:V):M Fl:=
M.bind (call 597 [items] []) λ _=>M.bind (makeV K call 313 [] []) λ t0=>M.bind (toSrc items) (c_604_17 K call items t0)
abbrev c_611_1(up down:V):M V:=
M.bind (unV .USub up) λ t5=>M.bind (unV .USub down) λ t7=>M.pure (V.tup [t5,t7])
abbrev c_611(K:Frag)(call:CallT)(up down:V):M Fl:=
M.bind (cmpV .Gt down (V.int 0)) λ r2=>M.bind (if r2 then M.pure (V.tup [up,down]) else(c_611_1 up down)) λ t0=>M.pure (.ret t0)
abbrev c_618_1(K:Frag)(call:CallT)(totals:V):M V:=
M.bind (methF K totals "stretch_top") λ mk7=>methC call mk7 totals []
abbrev c_618_2(K:Frag)(call:CallT)(totals:V):M V:=
M.bind (methF K totals "shrink_top") λ mk8=>methC call mk8 totals []
abbrev c_618_3(K:Frag)(totals t3:V):M V:=
M.bind (getA K totals "stretch") λ t13=>getI t13 t3
abbrev c_618_4(K:Frag)(totals t3:V):M V:=
M.bind (getA K totals "shrink") λ t14=>getI t14 t3
abbrev c_618_5(excess t9:V):M V:=
M.bind (unV .USub excess) λ t36=>M.bind (cmpV .Lt t9 t36) λ r37=>M.pure (V.bool r37)
abbrev c_618_6(excess t9:V):M V:=
M.bind (cmpV .Lt excess (V.int 0)) λ r33=>if r33 then(c_618_5 excess t9) else M.pure (V.bool false)
abbrev c_618_7(call:CallT)(t3 t9 t43 t54 t62:V):M Fl:=
M.bind (call 611 [t62,t9] []) λ t60=>M.pure (.ret (V.tup [t54,t3,t60,(V.tup [(V.int 3),t43])]))
abbrev c_618_8(call:CallT)(excess t3 t9 t43:V):M Fl:=
M.bind (cmpV .Gt excess (V.int 0)) λ r56=>M.bind (if r56 then M.pure (V.int 1) else M.pure (V.int 2)) λ t54=>M.bind (bcall (.builtin "abs") [excess]) (c_618_7 call t3 t9 t43 t54)
abbrev c_618_9(call:CallT)(excess t3 t9 t43:V):M Fl:=
M.bind (getI (V.tup [(V.int 3),t43]) (V.int 0)) λ t49=>M.bind (cmpV .Eq t49 (V.int 3)) λ r50=>if r50 then M.pure (.ret (V.tup [(V.int 2),t3,(V.tup [(V.int 1),(V.int 1)]),(V.tup [(V.int 3),t43])])) else(c_618_8 call excess t3 t9 t43)
abbrev c_618_10(call:CallT)(excess t3 t9 t43:V)(r46:Bool):M Fl:=
if r46 then M.pure (.ret (V.tup [(V.int 0),(V.int 0),(V.tup [(V.int 0),(V.int 1)]),(V.tup [(V.int 3),t43])])) else(c_618_9 call excess t3 t9 t43)
abbrev c_618_11(call:CallT)(excess t3 t9:V):M Fl:=
M.bind (unV .USub excess) λ t44=>M.bind (binV .Sub t44 t9) λ t43=>M.bind (cmpV .Eq t9 (V.int 0)) (c_618_10 call excess t3 t9 t43)
abbrev c_618_12(call:CallT)(t3 t9 t20 t25 t72 t80:V):M Fl:=
M.bind (call 611 [t80,t9] []) λ t78=>M.pure (.ret (V.tup [t72,t3,t78,(V.tup [t20,t25])]))
abbrev c_618_13(call:CallT)(excess t3 t9 t20 t25:V):M Fl:=
M.bind (cmpV .Gt excess (V.int 0)) λ r74=>M.bind (if r74 then M.pure (V.int 1) else M.pure (V.int 2)) λ t72=>M.bind (bcall (.builtin "abs") [excess]) (c_618_12 call t3 t9 t20 t25 t72)
abbrev c_618_14(call:CallT)(excess t3 t9 t20 t25:V):M Fl:=
M.bind (getI (V.tup [t20,t25]) (V.int 0)) λ t67=>M.bind (cmpV .Eq t67 (V.int 3)) λ r68=>if r68 then M.pure (.ret (V.tup [(V.int 2),t3,(V.tup [(V.int 1),(V.int 1)]),(V.tup [t20,t25])])) else(c_618_13 call excess t3 t9 t20 t25)
abbrev c_618_15(call:CallT)(excess t3 t9 t20 t25:V):M Fl:=
M.bind (cmpV .Eq t9 (V.int 0)) λ r64=>if r64 then M.pure (.ret (V.tup [(V.int 0),(V.int 0),(V.tup [(V.int 0),(V.int 1)]),(V.tup [t20,t25])])) else(c_618_14 call excess t3 t9 t20 t25)
abbrev c_618_16(call:CallT)(excess t3 t9 t20 t25 t28:V):M Fl:=
M.bind (asB t28) λ b39=>if b39 then(c_618_11 call excess t3 t9) else(c_618_15 call excess t3 t9 t20 t25)
abbrev c_618_17(call:CallT)(excess t3 t9 t20 t27:V):M Fl:=
M.bind (call 168 [t27,t9] []) λ t25=>M.bind (cmpV .Eq t3 (V.int 0)) λ r30=>M.bind (if r30 then(c_618_6 excess t9) else M.pure (V.bool false)) (c_618_16 call excess t3 t9 t20 t25)
abbrev c_618_18(call:CallT)(excess t3 t9:V):M Fl:=
M.bind (cmpV .Gt excess (V.int 0)) λ r22=>M.bind (if r22 then M.pure (V.int 1) else M.pure (V.int 2)) λ t20=>M.bind (bcall (.builtin "abs") [excess]) (c_618_17 call excess t3 t9 t20)
abbrev c_618_19(call:CallT)(t3 t9 t125 t133:V):M Fl:=
M.bind (call 611 [t133,t9] []) λ t131=>M.pure (.ret (V.tup [t125,t3,t131,(V.tup [(V.int 0),(V.int 0)])]))
abbrev c_618_20(call:CallT)(excess t3 t9:V):M Fl:=
M.bind (cmpV .Gt excess (V.int 0)) λ r127=>M.bind (if r127 then M.pure (V.int 1) else M.pure (V.int 2)) λ t125=>M.bind (bcall (.builtin "abs") [excess]) (c_618_19 call t3 t9 t125)
abbrev c_618_21(call:CallT)(excess t3 t9:V):M Fl:=
M.bind (getI (V.tup [(V.int 0),(V.int 0)]) (V.int 0)) λ t120=>M.bind (cmpV .Eq t120 (V.int 3)) λ r121=>if r121 then M.pure (.ret (V.tup [(V.int 2),t3,(V.tup [(V.int 1),(V.int 1)]),(V.tup [(V.int 0),(V.int 0)])])) else(c_618_20 call excess t3 t9)
abbrev c_618_22(call:CallT)(excess t3 t9:V):M Fl:=
M.bind (cmpV .Eq t9 (V.int 0)) λ r117=>if r117 then M.pure (.ret (V.tup [(V.int 0),(V.int 0),(V.tup [(V.int 0),(V.int 1)]),(V.tup [(V.int 0),(V.int 0)])])) else(c_618_21 call excess t3 t9)
abbrev c_618_23(call:CallT)(excess t3 t9:V)(b92:Bool):M Fl:=
if b92 then(c_618_11 call excess t3 t9) else(c_618_22 call excess t3 t9)
abbrev c_618_24(call:CallT)(excess t3 t9:V):M Fl:=
M.bind (cmpV .Eq t3 (V.int 0)) λ r83=>M.bind (if r83 then(c_618_6 excess t9) else M.pure (V.bool false)) λ t81=>M.bind (asB t81) (c_618_23 call excess t3 t9)
abbrev c_618_25(K:Frag)(call:CallT)(totals excess t3:V)(r11:Bool):M Fl:=
M.bind (if r11 then(c_618_3 K totals t3) else(c_618_4 K totals t3)) λ t9=>M.bind (cmpV .Eq t3 (V.int 0)) λ r16=>if r16 then(c_618_18 call excess t3 t9) else(c_618_24 call excess t3 t9)
abbrev c_618_26(K:Frag)(call:CallT)(totals excess:V):M Fl:=
M.bind (cmpV .Gt excess (V.int 0)) λ r5=>M.bind (if r5 then(c_618_1 K call totals) else(c_618_2 K call totals)) λ t3=>M.bind (cmpV .Gt excess (V.int 0)) (c_618_25 K call totals excess t3)
abbrev c_618(K:Frag)(call:CallT)(totals excess:V):M Fl:=
M.bind (cmpV .Eq excess (V.int 0)) λ r1=>if r1 then M.pure (.ret (V.tup [(V.int 0),(V.int 0),(V.tup [(V.int 0),(V.int 1)]),(V.tup [(V.int 0),(V.int 0)])])) else(c_618_26 K call totals excess)
abbrev c_625_1(mode:V):M V:=
M.bind (cmpV .NotEq mode (V.int 1)) λ r5=>M.pure (V.bool r5)
abbrev c_625_2(call:CallT)(own mode amount:V):M Fl:=
M.bind (call 126 [amount] []) λ _=>M.bind (cmpV .Eq mode (V.int 0)) λ r10=>M.bind (if r10 then M.pure amount else binV .Add own amount) λ t8=>M.pure (.ret t8)
abbrev c_625_3(call:CallT)(own mode amount:V)(b7:Bool):M Fl:=
if b7 then no else(c_625_2 call own mode amount)
abbrev c_625(K:Frag)(call:CallT)(own mode amount:V):M Fl:=
M.bind (cmpV .NotEq mode (V.int 0)) λ r2=>M.bind (if r2 then(c_625_1 mode) else M.pure (V.bool false)) λ t0=>M.bind (asB t0) (c_625_3 call own mode amount)
abbrev c_632_1(a4:V)(r9:Bool):M Fl:=
M.bind (if r9 then M.pure a4 else M.pure (V.tup [(V.int 0),(V.int 0)])) λ t5=>M.pure (.ret t5)
abbrev c_632_2(K:Frag)(box a4:V):M Fl:=
M.bind (getA K box "items") λ t7=>M.bind (alloc (.list [])) λ t8=>M.bind (cmpV .NotEq t7 t8) (c_632_1 a4)
abbrev c_632_3(K:Frag)(box a1 a2 a3 a4:V):M Fl:=
M.bind (setA K box "sign" a1) λ _=>M.bind (setA K box "order" a2) λ _=>M.bind (setA K box "ratio" a3) λ _=>c_632_2 K box a4
abbrev c_632(K:Frag)(call:CallT)(box totals excess:V):M Fl:=
M.bind (call 618 [totals,excess] []) λ t0=>un4 t0 (c_632_3 K box)
abbrev c_640_1(K:Frag)(call:CallT)(a1 t10 t13:V):M Fl:=
M.bind (getA K a1 "natural") λ t22=>M.bind (binV .Sub t10 t22) λ t21=>M.bind (call 632 [t13,a1,t21] []) λ t17=>M.pure (.ret (V.tup [t13,t17]))
abbrev c_640_2(K:Frag)(call:CallT)(items mode amount most_depth a1 a2:V):M Fl:=
M.bind (getA K a1 "natural") λ t12=>M.bind (call 625 [t12,mode,amount] []) λ t10=>M.bind (makeV K call 354 [(V.int 3),a2,t10,most_depth,items] []) (c_640_1 K call a1 t10)
abbrev c_640_3(K:Frag)(call:CallT)(items mode amount most_depth a1 a2 a3:V):M Fl:=
M.bind (methF K a1 "widen") λ mk7=>M.bind (binV .Sub a3 most_depth) λ t9=>M.bind (methC call mk7 a1 [t9]) λ _=>c_640_2 K call items mode amount most_depth a1 a2
abbrev c_640_4(K:Frag)(call:CallT)(items mode amount most_depth a1 a2 a3:V):M Fl:=
M.bind (cmpV .Gt a3 most_depth) λ r5=>if r5 then(c_640_3 K call items mode amount most_depth a1 a2 a3) else(c_640_2 K call items mode amount a3 a1 a2)
abbrev c_640(K:Frag)(call:CallT)(items mode amount most_depth:V):M Fl:=
M.bind (call 126 [most_depth] []) λ _=>M.bind (call 604 [items] []) λ t0=>un3 t0 (c_640_4 K call items mode amount most_depth)
abbrev c_655_1(K:Frag)(self t0:V):M Fl:=
M.bind (setA K self "stretch" t0) λ _=>M.bind (setA K self "shrink" (V.int 0)) λ _=>M.pure (.next [("self",self)])
abbrev c_655(K:Frag)(call:CallT)(self:V):M Fl:=
M.bind (setA K self "height" (V.int 0)) λ _=>M.bind (setA K self "depth" (V.int 0)) λ _=>M.bind (alloc (.list [(V.int 0),(V.int 0),(V.int 0),(V.int 0)])) (c_655_1 K self)
abbrev c_662_1(K:Frag)(self node t11:V):M Fl:=
M.bind (cmpV .Is t11 V.none) λ r12=>M.bind (if r12 then M.pure (V.int 0) else getA K node "depth") λ t9=>M.bind (setA K self "depth" t9) λ _=>M.pure (.next [("self",self),("node",node)])
abbrev c_662_2(K:Frag)(self node t1 t4:V):M Fl:=
M.bind (binV .Add t1 t4) λ t0=>M.bind (setA K self "height" t0) λ _=>M.bind (getA K node "depth") (c_662_1 K self node)
abbrev c_662_3(K:Frag)(self node t1:V):M Fl:=
M.bind (getA K node "height") λ t6=>M.bind (cmpV .Is t6 V.none) λ r7=>M.bind (if r7 then M.pure (V.int 0) else getA K node "height") (c_662_2 K self node t1)
abbrev c_662(K:Frag)(call:CallT)(self node:V):M Fl:=
M.bind (getA K self "height") λ t2=>M.bind (getA K self "depth") λ t3=>M.bind (binV .Add t2 t3) (c_662_3 K self node)
abbrev c_669_1(K:Frag)(self most_depth t5:V):M Fl:=
M.bind (binV .Sub t5 most_depth) λ t4=>M.bind (setA K self "height" t4) λ _=>M.bind (setA K self "depth" most_depth) λ _=>M.pure (.next [("self",self),("most_depth",most_depth)])
abbrev c_669_2(K:Frag)(self most_depth:V):M Fl:=
M.bind (getA K self "height") λ t6=>M.bind (getA K self "depth") λ t7=>M.bind (binV .Add t6 t7) (c_669_1 K self most_depth)
abbrev c_669(K:Frag)(call:CallT)(self most_depth:V):M Fl:=
M.bind (getA K self "depth") λ t1=>M.bind (cmpV .Gt t1 most_depth) λ r2=>if r2 then(c_669_2 K self most_depth) else M.pure (.next [("self",self),("most_depth",most_depth)])
abbrev c_676_1(K:Frag)(node:V):M V:=
M.bind (getA K node "glue") λ t5=>getA K t5 "width"
abbrev c_676_2(K:Frag)(self node t0 t27:V):M Fl:=
M.bind (setA K self "height" t27) λ _=>M.bind (setA K self "depth" (V.int 0)) λ _=>M.pure (.next [("self",self),("node",node),("size",t0)])
abbrev c_676_3(K:Frag)(self node t0 t29:V):M Fl:=
M.bind (getA K self "depth") λ t30=>M.bind (binV .Add t29 t30) λ t28=>M.bind (binV .Add t28 t0) (c_676_2 K self node t0)
abbrev c_676_4(K:Frag)(self node t0 t24 t25:V):M Fl:=
M.bind (binV .Add t24 t25) λ t23=>M.bind (setA K self "shrink" t23) λ _=>M.bind (getA K self "height") (c_676_3 K self node t0)
abbrev c_676_5(K:Frag)(self node t0:V):M Fl:=
M.bind (getA K self "shrink") λ t24=>M.bind (getA K node "glue") λ t26=>M.bind (getA K t26 "shrink") (c_676_4 K self node t0 t24)
abbrev c_676_6(K:Frag)(self node t0 t15 t16:V)(i19:Int)(t22:V):M Fl:=
M.bind (getA K t22 "stretch") λ t21=>M.bind (asI t21) λ j20=>M.bind (setI t15 t16 (.int (i19+j20))) λ _=>c_676_5 K self node t0
abbrev c_676_7(K:Frag)(self node t0 t15 t16:V):M Fl:=
M.bind (getI t15 t16) λ t18=>M.bind (asI t18) λ i19=>M.bind (getA K node "glue") (c_676_6 K self node t0 t15 t16 i19)
abbrev c_676_8(K:Frag)(self node t0:V):M Fl:=
M.bind (getA K self "stretch") λ t15=>M.bind (getA K node "glue") λ t17=>M.bind (getA K t17 "stretch_order") (c_676_7 K self node t0 t15)
abbrev c_676_9(K:Frag)(self node t0:V)(r13:Bool):M Fl:=
if r13 then raise 80 else(c_676_8 K self node t0)
abbrev c_676_10(K:Frag)(self node t0:V):M Fl:=
M.bind (getA K node "glue") λ t12=>M.bind (getA K t12 "shrink_order") λ t11=>M.bind (cmpV .NotEq t11 (V.int 0)) (c_676_9 K self node t0)
abbrev c_676_11(K:Frag)(self node t0 t32:V):M Fl:=
M.bind (binV .Add t32 t0) λ t31=>M.bind (setA K self "height" t31) λ _=>M.bind (setA K self "depth" (V.int 0)) λ _=>M.pure (.next [("self",self),("node",node),("size",t0)])
abbrev c_676_12(K:Frag)(self node t0:V):M Fl:=
M.bind (getA K self "height") λ t33=>M.bind (getA K self "depth") λ t34=>M.bind (binV .Add t33 t34) (c_676_11 K self node t0)
abbrev c_676_13(K:Frag)(self node t0:V):M Fl:=
M.bind (getA K node "kind") λ t7=>M.bind (cmpV .Eq t7 (V.int 6)) λ r8=>if r8 then(c_676_10 K self node t0) else(c_676_12 K self node t0)
abbrev c_676(K:Frag)(call:CallT)(self node:V):M Fl:=
M.bind (getA K node "kind") λ t2=>M.bind (cmpV .Eq t2 (V.int 5)) λ r3=>M.bind (if r3 then getA K node "width" else(c_676_1 K node)) (c_676_13 K self node)
abbrev c_683_1(K:Frag)(self:V):M V:=
M.bind (getA K self "stretch") λ t17=>M.bind (getI t17 (V.int 3)) λ t16=>M.bind (cmpV .NotEq t16 (V.int 0)) λ r18=>M.pure (V.bool r18)
abbrev c_683_2(K:Frag)(self:V)(r13:Bool):M V:=
if r13 then M.pure (V.bool true) else(c_683_1 K self)
abbrev c_683_3(K:Frag)(self:V):M V:=
M.bind (getA K self "stretch") λ t12=>M.bind (getI t12 (V.int 2)) λ t11=>M.bind (cmpV .NotEq t11 (V.int 0)) (c_683_2 K self)
abbrev c_683_4(call:CallT)(t23 t27:V):M Fl:=
M.bind (getI t27 (V.int 0)) λ t26=>M.bind (call 168 [t23,t26] []) λ t21=>M.pure (.ret t21)
abbrev c_683_5(K:Frag)(call:CallT)(self goal:V):M Fl:=
M.bind (getA K self "height") λ t24=>M.bind (binV .Sub goal t24) λ t23=>M.bind (getA K self "stretch") (c_683_4 call t23)
abbrev c_683_6(K:Frag)(call:CallT)(self goal:V)(r8:Bool):M Fl:=
M.bind (if r8 then M.pure (V.bool true) else(c_683_3 K self)) λ t4=>M.bind (asB t4) λ b20=>if b20 then M.pure (.ret (V.int 0)) else(c_683_5 K call self goal)
abbrev c_683_7(K:Frag)(call:CallT)(self goal:V):M Fl:=
M.bind (getA K self "stretch") λ t7=>M.bind (getI t7 (V.int 1)) λ t6=>M.bind (cmpV .NotEq t6 (V.int 0)) (c_683_6 K call self goal)
abbrev c_683_8(call:CallT)(t36 t39:V):M Fl:=
M.bind (call 168 [t36,t39] []) λ t34=>M.pure (.ret t34)
abbrev c_683_9(K:Frag)(call:CallT)(self goal:V):M Fl:=
M.bind (getA K self "height") λ t37=>M.bind (binV .Sub t37 goal) λ t36=>M.bind (getA K self "shrink") (c_683_8 call t36)
abbrev c_683_10(K:Frag)(call:CallT)(self goal t29 t31:V):M Fl:=
M.bind (cmpV .Gt t29 t31) λ r32=>if r32 then M.pure (.ret (V.int 1073741823)) else(c_683_9 K call self goal)
abbrev c_683_11(K:Frag)(call:CallT)(self goal:V):M Fl:=
M.bind (getA K self "height") λ t30=>M.bind (binV .Sub t30 goal) λ t29=>M.bind (getA K self "shrink") (c_683_10 K call self goal t29)
abbrev c_683(K:Frag)(call:CallT)(self goal:V):M Fl:=
M.bind (getA K self "height") λ t1=>M.bind (cmpV .Lt t1 goal) λ r2=>if r2 then(c_683_7 K call self goal) else(c_683_11 K call self goal)
abbrev c_697_1(K:Frag)(t4:V):M Fl:=
M.bind (getA K t4 "value") λ t9=>M.pure (.ret t9)
abbrev c_697_2(call:CallT)(items place:V):M V:=
M.bind (binV .Sub place (V.int 1)) λ t22=>M.bind (getI items t22) λ t21=>M.bind (call 575 [t21] []) (c_415_1)
abbrev c_697_3(b24:Bool):M Fl:=
M.bind (if b24 then M.pure (V.int 0) else M.pure V.none) λ t14=>M.pure (.ret t14)
abbrev c_697_4(call:CallT)(items place:V):M Fl:=
M.bind (cmpV .Gt place (V.int 0)) λ r17=>M.bind (if r17 then(c_697_2 call items place) else M.pure (V.bool false)) λ t15=>M.bind (asB t15) (c_697_3)
abbrev c_697_5(t38:V):M V:=
M.bind (cmpV .Eq t38 (V.int 6)) λ r41=>M.pure (V.bool r41)
abbrev c_697_6(K:Frag)(items place:V):M V:=
M.bind (binV .Add place (V.int 1)) λ t40=>M.bind (getI items t40) λ t39=>M.bind (getA K t39 "kind") (c_697_5)
abbrev c_697_7(K:Frag)(items place:V)(r32:Bool):M Fl:=
M.bind (if !r32 then(c_697_6 K items place) else M.pure (V.bool false)) λ t34=>M.bind (asB t34) λ b43=>M.bind (if b43 then M.pure (V.int 0) else M.pure V.none) λ t33=>M.pure (.ret t33)
abbrev c_697_8(K:Frag)(items place:V):M Fl:=
M.bind (binV .Add place (V.int 1)) λ t30=>M.bind (bcall (.builtin "len") [items]) λ t31=>M.bind (cmpV .Eq t30 t31) (c_697_7 K items place)
abbrev c_697_9(K:Frag)(items place t4:V):M Fl:=
M.bind (getA K t4 "kind") λ t26=>M.bind (cmpV .Eq t26 (V.int 5)) λ r27=>if r27 then(c_697_8 K items place) else M.pure (.ret V.none)
abbrev c_697_10(K:Frag)(call:CallT)(items place t4:V):M Fl:=
M.bind (getA K t4 "kind") λ t11=>M.bind (cmpV .Eq t11 (V.int 6)) λ r12=>if r12 then(c_697_4 call items place) else(c_697_9 K items place t4)
abbrev c_697_11(K:Frag)(call:CallT)(items place t4:V)(r7:Bool):M Fl:=
if r7 then(c_697_1 K t4) else(c_697_10 K call items place t4)
abbrev c_697_12(K:Frag)(call:CallT)(items place:V):M Fl:=
M.bind (getI items place) λ t4=>M.bind (getA K t4 "kind") λ t6=>M.bind (cmpV .Eq t6 (V.int 7)) (c_697_11 K call items place t4)
abbrev c_697(K:Frag)(call:CallT)(items place:V):M Fl:=
M.bind (bcall (.builtin "len") [items]) λ t1=>M.bind (cmpV .Eq place t1) λ r2=>if r2 then M.pure (.ret (V.int (-10000))) else(c_697_12 K call items place)
abbrev c_704_1(penalty t0:V):M Fl:=
M.bind (cmpV .Lt t0 (V.int 10000)) λ r10=>M.bind (if r10 then binV .Add t0 penalty else M.pure (V.int 100000)) λ t8=>M.pure (.ret t8)
abbrev c_704_2(penalty t0:V):M Fl:=
M.bind (cmpV .LtE penalty (V.int (-10000))) λ r6=>if r6 then M.pure (.ret penalty) else(c_704_1 penalty t0)
abbrev c_704_3(penalty t0:V)(r3:Bool):M Fl:=
if r3 then M.pure (.ret (V.int 1073741823)) else(c_704_2 penalty t0)
abbrev c_704(K:Frag)(call:CallT)(column goal penalty:V):M Fl:=
M.bind (methF K column "cost") λ mk1=>M.bind (methC call mk1 column [goal]) λ t0=>M.bind (cmpV .Eq t0 (V.int 1073741823)) (c_704_3 penalty t0)
abbrev c_711_1(K:Frag)(call:CallT)(k14:Lo→M Fl)(ρ83:Lo):M Fl:=
M.bind (M.bind (ofO (lk "column" ρ83)) λ t111=>M.bind (methF K t111 "keep") λ mk112=>M.bind (M.bind (ofO (lk "most_depth" ρ83)) λ t114=>M.pure [t114]) λ vs113=>methC call mk112 t111 vs113) λ _=>k14 ρ83
abbrev c_711_2(K:Frag)(call:CallT)(ρ901:Lo)(k82:Lo→M Fl):M Fl:=
M.bind (M.bind (ofO (lk "column" ρ901)) λ t89=>M.bind (methF K t89 "stand") λ mk90=>M.bind (M.bind (ofO (lk "node" ρ901)) λ t92=>M.pure [t92]) λ vs91=>methC call mk90 t89 vs91) λ _=>k82 ρ901
abbrev c_711_3(K:Frag)(call:CallT)(ρ902:Lo)(k93:Lo→M Fl):M Fl:=
M.bind (M.bind (ofO (lk "column" ρ902)) λ t107=>M.bind (methF K t107 "flow") λ mk108=>M.bind (M.bind (ofO (lk "node" ρ902)) λ t110=>M.pure [t110]) λ vs109=>methC call mk108 t107 vs109) λ _=>k93 ρ902
abbrev c_711_4(K:Frag)(call:CallT)(ρ903:Lo)(k93:Lo→M Fl)(t95:V):M Fl:=
M.bind (asB t95) λ b106=>if b106 then(c_711_3 K call ρ903 k93) else k93 ρ903
abbrev c_711_5(K:Frag)(call:CallT)(ρ904:Lo)(k93:Lo→M Fl):M Fl:=
M.bind (M.bind (M.bind (M.bind (ofO (lk "node" ρ904)) λ t98=>getA K t98 "kind") λ t97=>M.bind (cmpV .Eq t97 (V.int 6)) λ r99=>M.pure (V.bool r99)) λ t96=>M.bind (asB t96) λ b100=>if b100 then M.pure (V.bool true) else M.bind (M.bind (M.bind (ofO (lk "node" ρ904)) λ t103=>getA K t103 "kind") λ t102=>M.bind (cmpV .Eq t102 (V.int 5)) λ r104=>M.pure (V.bool r104)) λ t101=>M.bind (asB t101) λ b105=>M.pure (V.bool b105)) (c_711_4 K call ρ904 k93)
abbrev c_711_6(K:Frag)(call:CallT)(ρ905:Lo)(k82:Lo→M Fl):M Fl:=
jp k82 (c_711_5 K call ρ905)
abbrev c_711_7(K:Frag)(call:CallT)(ρ906:Lo)(k82:Lo→M Fl)(t84:V):M Fl:=
M.bind (asB t84) λ b88=>if b88 then(c_711_2 K call ρ906 k82) else(c_711_6 K call ρ906 k82)
abbrev c_711_8(K:Frag)(call:CallT)(ρ907:Lo)(k82:Lo→M Fl):M Fl:=
M.bind (M.bind (M.bind (ofO (lk "node" ρ907)) λ t86=>getA K t86 "kind") λ t85=>M.bind (cmpV .In t85 (V.tup [(V.int 2),(V.int 3),(V.int 4),(V.int 14)])) λ r87=>M.pure (V.bool r87)) (c_711_7 K call ρ907 k82)
abbrev c_711_9(K:Frag)(call:CallT)(k14:Lo→M Fl)(ρ21:Lo)(t79:V):M Fl:=
jp (c_711_1 K call k14) (c_711_8 K call (put "node" t79 ρ21))
abbrev c_711_10(K:Frag)(call:CallT)(k14:Lo→M Fl)(ρ21:Lo):M Fl:=
M.bind (M.bind (ofO (lk "items" ρ21)) λ t80=>M.bind (ofO (lk "place" ρ21)) λ t81=>getI t80 t81) (c_711_9 K call k14 ρ21)
abbrev c_711_11(ρ40:Lo):M Fl:=
M.bind (M.bind (M.bind (ofO (lk "best" ρ40)) λ t74=>M.bind (M.bind (ofO (lk "least" ρ40)) λ t76=>M.bind (M.bind (ofO (lk "size" ρ40)) λ t78=>M.pure [t78]) λ vs77=>M.pure (t76::vs77)) λ vs75=>M.pure (t74::vs75)) λ vs73=>if vs73.length≤1000 then M.pure (V.tup vs73) else no) λ t72=>M.pure (.ret t72)
abbrev c_711_12(ρ40:Lo)(k60:Lo→M Fl)(t62:V):M Fl:=
M.bind (asB t62) λ b71=>if b71 then(c_711_11 ρ40) else k60 ρ40
abbrev c_711_13(ρ40:Lo)(k60:Lo→M Fl):M Fl:=
M.bind (M.bind (M.bind (ofO (lk "cost" ρ40)) λ t64=>M.bind (cmpV .Eq t64 (V.int 1073741823)) λ r65=>M.pure (V.bool r65)) λ t63=>M.bind (asB t63) λ b66=>if b66 then M.pure (V.bool true) else M.bind (M.bind (ofO (lk "penalty" ρ40)) λ t68=>M.bind (cmpV .LtE t68 (V.int (-10000))) λ r69=>M.pure (V.bool r69)) λ t67=>M.bind (asB t67) λ b70=>M.pure (V.bool b70)) (c_711_12 ρ40 k60)
abbrev c_711_14(k20:Lo→M Fl)(ρ40:Lo):M Fl:=
jp k20 (c_711_13 ρ40)
abbrev c_711_15(K:Frag)(ρ908:Lo)(k39:Lo→M Fl):M Fl:=
M.bind (M.bind (M.bind (ofO (lk "place" ρ908)) λ t48=>M.bind (M.bind (ofO (lk "cost" ρ908)) λ t50=>M.bind (M.bind (M.bind (M.bind (ofO (lk "column" ρ908)) λ t54=>getA K t54 "height") λ t53=>M.bind (M.bind (ofO (lk "column" ρ908)) λ t56=>getA K t56 "depth") λ t55=>binV .Add t53 t55) λ t52=>M.pure [t52]) λ vs51=>M.pure (t50::vs51)) λ vs49=>M.pure (t48::vs49)) λ vs47=>if vs47.length≤1000 then M.pure (V.tup vs47) else no) λ t46=>un3 t46 (λ a57 a58 a59=>k39 (put "size" a59 (put "least" a58 (put "best" a57 ρ908))))
abbrev c_711_16(K:Frag)(ρ909:Lo)(k39:Lo→M Fl)(t41:V):M Fl:=
M.bind (asB t41) λ b45=>if b45 then(c_711_15 K ρ909 k39) else k39 ρ909
abbrev c_711_17(K:Frag)(ρ910:Lo)(k39:Lo→M Fl):M Fl:=
M.bind (M.bind (ofO (lk "cost" ρ910)) λ t42=>M.bind (ofO (lk "least" ρ910)) λ t43=>M.bind (cmpV .LtE t42 t43) λ r44=>M.pure (V.bool r44)) (c_711_16 K ρ910 k39)
abbrev c_711_18(K:Frag)(ρ911:Lo)(k20:Lo→M Fl)(t32:V):M Fl:=
jp (c_711_14 k20) (c_711_17 K (put "cost" t32 ρ911))
abbrev c_711_19(K:Frag)(call:CallT)(ρ912:Lo)(k20:Lo→M Fl):M Fl:=
M.bind (M.bind (M.bind (ofO (lk "column" ρ912)) λ t34=>M.bind (M.bind (ofO (lk "height" ρ912)) λ t36=>M.bind (M.bind (ofO (lk "penalty" ρ912)) λ t38=>M.pure [t38]) λ vs37=>M.pure (t36::vs37)) λ vs35=>M.pure (t34::vs35)) λ vs33=>call 704 vs33 []) (c_711_18 K ρ912 k20)
abbrev c_711_20(K:Frag)(call:CallT)(ρ913:Lo)(k20:Lo→M Fl)(t22:V):M Fl:=
M.bind (asB t22) λ b31=>if b31 then(c_711_19 K call ρ913 k20) else k20 ρ913
abbrev c_711_21(K:Frag)(call:CallT)(ρ914:Lo)(k20:Lo→M Fl):M Fl:=
M.bind (M.bind (M.bind (ofO (lk "penalty" ρ914)) λ t24=>M.bind (cmpV .IsNot t24 V.none) λ r25=>M.pure (V.bool r25)) λ t23=>M.bind (asB t23) λ b26=>if b26 then M.bind (M.bind (ofO (lk "penalty" ρ914)) λ t28=>M.bind (cmpV .Lt t28 (V.int 10000)) λ r29=>M.pure (V.bool r29)) λ t27=>M.bind (asB t27) λ b30=>M.pure (V.bool b30) else M.pure (V.bool false)) (c_711_20 K call ρ914 k20)
abbrev c_711_22(K:Frag)(call:CallT)(ρ915:Lo)(k14:Lo→M Fl)(t15:V):M Fl:=
jp (c_711_10 K call k14) (c_711_21 K call (put "penalty" t15 ρ915))
abbrev c_711_23(K:Frag)(call:CallT)(v12:V)(ρ13:Lo)(k14:Lo→M Fl):M Fl:=
M.bind (M.bind (M.bind (ofO (lk "items" (put "place" v12 ρ13))) λ t17=>M.bind (M.bind (ofO (lk "place" (put "place" v12 ρ13))) λ t19=>M.pure [t19]) λ vs18=>M.pure (t17::vs18)) λ vs16=>call 697 vs16 []) (c_711_22 K call (put "place" v12 ρ13) k14)
abbrev c_711_24(ρ115:Lo):M Fl:=
M.bind (M.bind (M.bind (ofO (lk "best" ρ115)) λ t118=>M.bind (M.bind (ofO (lk "least" ρ115)) λ t120=>M.bind (M.bind (ofO (lk "size" ρ115)) λ t122=>M.pure [t122]) λ vs121=>M.pure (t120::vs121)) λ vs119=>M.pure (t118::vs119)) λ vs117=>if vs117.length≤1000 then M.pure (V.tup vs117) else no) λ t116=>M.pure (.ret t116)
abbrev c_711_25(K:Frag)(call:CallT)(items height most_depth t0 t3:V)(src11:Src):M Fl:=
forLoop 200 src11 0 [("items",items),("height",height),("most_depth",most_depth),("column",t0),("best",t3),("least",(V.int 1073741823)),("size",(V.int 0))] (c_711_23 K call) (c_711_24)
abbrev c_711_26(K:Frag)(call:CallT)(items height most_depth t0 t3 t10:V):M Fl:=
M.bind (binV .Add t10 (V.int 1)) λ t9=>M.bind (bcall (.type "range") [t9]) λ t7=>M.bind (toSrc t7) (c_711_25 K call items height most_depth t0 t3)
abbrev c_711_27(K:Frag)(call:CallT)(items height most_depth:V):M Fl:=
M.bind (makeV K call 686 [] []) λ t0=>M.bind (bcall (.builtin "len") [items]) λ t3=>M.bind (bcall (.builtin "len") [items]) (c_711_26 K call items height most_depth t0 t3)
abbrev c_711(K:Frag)(call:CallT)(items height most_depth:V):M Fl:=
M.bind (call 597 [items] []) λ _=>M.bind (call 126 [height] []) λ _=>M.bind (call 126 [most_depth] []) λ _=>c_711_27 K call items height most_depth
abbrev c_718(K:Frag)(call:CallT)(items height most_depth:V):M Fl:=
M.bind (call 711 [items,height,most_depth] []) λ t1=>M.bind (sliceV K t1 V.none (V.int 2)) λ t0=>M.pure (.ret t0)
abbrev c_725_1(K:Frag)(call:CallT)(ρ12:Lo)(k59:Lo→M Fl):M Fl:=
M.bind (M.bind (ofO (lk "kept" ρ12)) λ t78=>M.bind (methF K t78 "append") λ mk79=>M.bind (M.bind (ofO (lk "node" ρ12)) λ t81=>M.pure [t81]) λ vs80=>methC call mk79 t78 vs80) λ _=>k59 ρ12
abbrev c_725_2(K:Frag)(call:CallT)(ρ12:Lo)(k59:Lo→M Fl)(t61:V):M Fl:=
M.bind (asB t61) λ b77=>if b77 then(c_725_1 K call ρ12 k59) else k59 ρ12
abbrev c_725_3(K:Frag)(call:CallT)(ρ12:Lo)(k59:Lo→M Fl):M Fl:=
M.bind (M.bind (M.bind (M.bind (ofO (lk "node" ρ12)) λ t64=>getA K t64 "kind") λ t63=>M.bind (cmpV .Eq t63 (V.int 9)) λ r65=>M.pure (V.bool r65)) λ t62=>M.bind (asB t62) λ b66=>if b66 then M.pure (V.bool true) else M.bind (M.bind (M.bind (ofO (lk "node" ρ12)) λ t69=>getA K t69 "kind") λ t68=>M.bind (cmpV .Eq t68 (V.int 10)) λ r70=>M.pure (V.bool r70)) λ t67=>M.bind (asB t67) λ b71=>if b71 then M.pure (V.bool true) else M.bind (M.bind (M.bind (ofO (lk "node" ρ12)) λ t74=>getA K t74 "kind") λ t73=>M.bind (cmpV .Eq t73 (V.int 13)) λ r75=>M.pure (V.bool r75)) λ t72=>M.bind (asB t72) λ b76=>M.pure (V.bool b76)) (c_725_2 K call ρ12 k59)
abbrev c_725_4(K:Frag)(call:CallT)(k7:Lo→M Fl)(ρ12:Lo):M Fl:=
jp k7 (c_725_3 K call ρ12)
abbrev c_725_5(K:Frag)(call:CallT)(ρ901:Lo)(t25:V):M Fl:=
M.bind (M.bind (M.bind (ofO (lk "kept" (put "room" t25 ρ901))) λ t48=>M.bind (M.bind (M.bind (M.bind (M.bind (ofO (lk "room" (put "room" t25 ρ901))) λ t53=>M.bind (M.bind (binV .Add (V.int 100) (V.int 8)) λ t55=>M.pure [t55]) λ vs54=>M.pure (t53::vs54)) λ vs52=>makeV K call 418 vs52 []) λ t51=>M.pure [t51]) λ vs50=>if vs50.length≤1000 then alloc (.list vs50) else no) λ t49=>binV .Add t48 t49) λ t47=>M.bind (M.bind (ofO (lk "items" (put "room" t25 ρ901))) λ t57=>M.bind (ofO (lk "place" (put "room" t25 ρ901))) λ t58=>sliceV K t57 t58 V.none) λ t56=>binV .Add t47 t56) λ t46=>M.pure (.ret t46)
abbrev c_725_6(K:Frag)(call:CallT)(ρ902:Lo)(t18:V):M Fl:=
M.bind (M.bind (M.bind (M.bind (M.bind (M.bind (M.bind (M.bind (ofO (lk "top" (put "height" t18 ρ902))) λ t32=>getA K t32 "width") λ t31=>M.bind (ofO (lk "height" (put "height" t18 ρ902))) λ t33=>binV .Sub t31 t33) λ t30=>M.pure [t30]) λ vs29=>M.pure ((V.int 0)::vs29)) λ vs28=>bcall (.builtin "max") vs28) λ t27=>M.bind (M.bind (M.bind (ofO (lk "top" (put "height" t18 ρ902))) λ t36=>getA K t36 "stretch") λ t35=>M.bind (M.bind (M.bind (ofO (lk "top" (put "height" t18 ρ902))) λ t39=>getA K t39 "stretch_order") λ t38=>M.bind (M.bind (M.bind (ofO (lk "top" (put "height" t18 ρ902))) λ t42=>getA K t42 "shrink") λ t41=>M.bind (M.bind (M.bind (ofO (lk "top" (put "height" t18 ρ902))) λ t45=>getA K t45 "shrink_order") λ t44=>M.pure [t44]) λ vs43=>M.pure (t41::vs43)) λ vs40=>M.pure (t38::vs40)) λ vs37=>M.pure (t35::vs37)) λ vs34=>M.pure (t27::vs34)) λ vs26=>makeV K call 250 vs26 []) (c_725_5 K call (put "height" t18 ρ902))
abbrev c_725_7(K:Frag)(call:CallT)(ρ903:Lo):M Fl:=
M.bind (M.bind (M.bind (M.bind (ofO (lk "node" ρ903)) λ t21=>getA K t21 "height") λ t20=>M.bind (cmpV .Is t20 V.none) λ r22=>M.pure (V.bool r22)) λ t19=>M.bind (asB t19) λ b23=>if b23 then M.pure (V.int 0) else M.bind (ofO (lk "node" ρ903)) λ t24=>getA K t24 "height") (c_725_6 K call ρ903)
abbrev c_725_8(K:Frag)(call:CallT)(ρ904:Lo)(k11:Lo→M Fl)(t13:V):M Fl:=
M.bind (asB t13) λ b17=>if b17 then(c_725_7 K call ρ904) else k11 ρ904
abbrev c_725_9(K:Frag)(call:CallT)(ρ905:Lo)(k11:Lo→M Fl):M Fl:=
M.bind (M.bind (M.bind (ofO (lk "node" ρ905)) λ t15=>getA K t15 "kind") λ t14=>M.bind (cmpV .In t14 (V.tup [(V.int 2),(V.int 3),(V.int 4),(V.int 14)])) λ r16=>M.pure (V.bool r16)) (c_725_8 K call ρ905 k11)
abbrev c_725_10(K:Frag)(call:CallT)(ρ906:Lo)(k7:Lo→M Fl)(t8:V):M Fl:=
jp (c_725_4 K call k7) (c_725_9 K call (put "node" t8 ρ906))
abbrev c_725_11(K:Frag)(call:CallT)(v5:V)(ρ6:Lo)(k7:Lo→M Fl):M Fl:=
M.bind (M.bind (ofO (lk "items" (put "place" v5 ρ6))) λ t9=>M.bind (ofO (lk "place" (put "place" v5 ρ6))) λ t10=>getI t9 t10) (c_725_10 K call (put "place" v5 ρ6) k7)
abbrev c_725_12(ρ82:Lo):M Fl:=
M.bind (ofO (lk "kept" ρ82)) λ t83=>M.pure (.ret t83)
abbrev c_725_13(K:Frag)(call:CallT)(items top t0 t1:V):M Fl:=
M.bind (toSrc t1) λ src4=>forLoop 200 src4 0 [("items",items),("top",top),("kept",t0)] (c_725_11 K call) (c_725_12)
abbrev c_725(K:Frag)(call:CallT)(items top:V):M Fl:=
M.bind (alloc (.list [])) λ t0=>M.bind (bcall (.builtin "len") [items]) λ t3=>M.bind (bcall (.type "range") [t3]) (c_725_13 K call items top t0)
abbrev c_730_1(K:Frag)(v2:V):M (Option V):=
M.bind (getA K v2 "tokens") λ t4=>M.pure (some t4)
abbrev c_730_2(K:Frag)(v2:V):M (Option V):=
M.bind (getA K v2 "kind") λ t7=>M.bind (cmpV .Eq t7 (V.int 9)) λ r8=>if r8 then(c_730_1 K v2) else M.pure none
abbrev c_730_3(t0:V):M V:=
M.bind (getI t0 (V.int 0)) λ t15=>M.bind (getI t0 (V.int (-1))) λ t17=>M.pure (V.tup [t15,t17])
abbrev c_730_4(t0:V):M Fl:=
M.bind (alloc (.list [])) λ t11=>M.bind (cmpV .NotEq t0 t11) λ r12=>M.bind (if r12 then(c_730_3 t0) else M.pure (V.tup [(V.tup []),(V.tup [])])) λ t9=>M.pure (.ret t9)
abbrev c_730(K:Frag)(call:CallT)(items:V):M Fl:=
M.bind (toSrc items) λ src1=>M.bind (compLoop 200 src1 0 (c_730_2 K)) λ vs3=>M.bind (alloc (.list vs3)) (c_730_4)
abbrev c_737_1(call:CallT)(most_depth t13:V):M V:=
M.bind (call 640 [t13] [("most_depth",most_depth)]) λ t22=>getI t22 (V.int 0)
abbrev c_737_2(call:CallT)(t11 t17 a24 a25:V):M Fl:=
M.bind (call 730 [t11] []) λ t30=>M.pure (.ret (V.tup [a24,t17,t30,a25]))
abbrev c_737_3(call:CallT)(t11 t17 t23:V):M Fl:=
un2 t23 (c_737_2 call t11 t17)
abbrev c_737_4(call:CallT)(height most_depth split_depth t11 t13 t19:V):M Fl:=
M.bind (cmpV .NotEq t13 t19) λ r20=>M.bind (if r20 then(c_737_1 call most_depth t13) else M.pure V.none) λ t17=>M.bind (call 640 [t11,(V.int 0),height,split_depth] []) (c_737_3 call t11 t17)
abbrev c_737_5(K:Frag)(call:CallT)(height most_depth split_depth top t7 t11 t16:V):M Fl:=
M.bind (sliceV K t16 t7 V.none) λ t15=>M.bind (call 725 [t15,top] []) λ t13=>M.bind (alloc (.list [])) (c_737_4 call height most_depth split_depth t11 t13)
abbrev c_737_6(K:Frag)(call:CallT)(box height most_depth split_depth top t7:V):M Fl:=
M.bind (getA K box "items") λ t12=>M.bind (sliceV K t12 V.none t7) λ t11=>M.bind (getA K box "items") (c_737_5 K call height most_depth split_depth top t7 t11)
abbrev c_737_7(K:Frag)(call:CallT)(box height most_depth split_depth top:V):M Fl:=
M.bind (getA K box "items") λ t10=>M.bind (call 718 [t10,height,split_depth] []) λ t8=>M.bind (getI t8 (V.int 0)) (c_737_6 K call box height most_depth split_depth top)
abbrev c_737_8(K:Frag)(call:CallT)(box height most_depth split_depth top:V):M Fl:=
M.bind (getA K box "kind") λ t4=>M.bind (cmpV .NotEq t4 (V.int 3)) λ r5=>if r5 then raise 80 else(c_737_7 K call box height most_depth split_depth top)
abbrev c_737(K:Frag)(call:CallT)(box height most_depth split_depth top:V):M Fl:=
M.bind (cmpV .Is box V.none) λ r1=>if r1 then M.pure (.ret (V.tup [V.none,V.none,(V.tup [(V.tup []),(V.tup [])]),(V.tup [(V.int 0),(V.int 0)])])) else(c_737_8 K call box height most_depth split_depth top)
abbrev c_744_1(v2:V)(ρ3:Lo)(k4:Lo→M Fl):M Fl:=
M.bind (M.bind (M.bind (M.bind (ofO (lk "whole_one" (put "cell" v2 ρ3))) λ t8=>binV .Mult t8 (V.int 1000003)) λ t7=>M.bind (M.bind (M.bind (M.bind (M.bind (ofO (lk "cell" (put "cell" v2 ρ3))) λ t13=>M.pure [t13]) λ vs12=>bcall (.builtin "abs") vs12) λ t11=>M.bind (binV .Pow (V.int 10) (V.int 30)) λ t14=>binV .Mod t11 t14) λ t10=>binV .Mult t10 (V.int 2)) λ t9=>binV .Add t7 t9) λ t6=>M.bind (M.bind (M.bind (M.bind (ofO (lk "cell" (put "cell" v2 ρ3))) λ t18=>M.bind (cmpV .Lt t18 (V.int 0)) λ r19=>M.pure (V.bool r19)) λ t17=>M.pure [t17]) λ vs16=>bcall (.type "int") vs16) λ t15=>binV .Add t6 t15) λ t5=>k4 (put "whole_one" t5 (put "cell" v2 ρ3))
abbrev c_744_2(ρ20:Lo):M Fl:=
M.bind (M.bind (M.bind (ofO (lk "whole_one" ρ20)) λ t23=>M.pure [t23,(V.int 0)]) λ vs22=>if vs22.length≤1000 then alloc (.list vs22) else no) λ t21=>M.pure (.ret t21)
abbrev c_744(K:Frag)(call:CallT)(script:V):M Fl:=
M.bind (sliceV K script V.none (V.int 24)) λ t0=>M.bind (toSrc t0) λ src1=>forLoop 200 src1 0 [("script",script),("whole_one",(V.int 0))] (c_744_1) (c_744_2)
abbrev c_751_1(many t7:V):M Fl:=
M.bind (binV .Mod t7 many) λ t6=>M.pure (.ret t6)
abbrev c_751_2(many t10 t14:V):M Fl:=
M.bind (binV .Add t10 t14) λ t9=>M.bind (binV .Add t9 (V.int 3)) λ t8=>M.bind (binV .Mod t8 (V.int 101)) (c_751_1 many)
abbrev c_751_3(heap many t11 t13:V):M Fl:=
M.bind (binV .Mult t11 t13) λ t10=>M.bind (getI heap (V.int 1)) λ t15=>M.bind (binV .Mult (V.int 5) t15) (c_751_2 many t10)
abbrev c_751_4(heap many:V):M Fl:=
M.bind (getI heap (V.int 1)) λ t12=>M.bind (binV .Mult (V.int 7) t12) λ t11=>M.bind (getI heap (V.int 1)) (c_751_3 heap many t11)
abbrev c_751_5(heap many t16 t19:V):M Fl:=
M.bind (binV .FloorDiv t19 many) λ t18=>M.bind (setI heap (V.int 0) t18) λ _=>M.pure (.ret t16)
abbrev c_751_6(heap many:V):M Fl:=
M.bind (getI heap (V.int 0)) λ t17=>M.bind (binV .Mod t17 many) λ t16=>M.bind (getI heap (V.int 0)) (c_751_5 heap many t16)
abbrev c_751_7(heap many:V):M Fl:=
M.bind (getI heap (V.int 0)) λ t3=>M.bind (cmpV .Eq t3 (V.int 0)) λ r4=>if r4 then(c_751_4 heap many) else(c_751_6 heap many)
abbrev c_751(K:Frag)(call:CallT)(heap many:V):M Fl:=
M.bind (getI heap (V.int 1)) λ t1=>M.bind (binV .Add t1 (V.int 1)) λ t0=>M.bind (setI heap (V.int 1) t0) λ _=>c_751_7 heap many
abbrev c_758_1(K:Frag)(call:CallT)(t4 t6 t12 t16 t22:V):M Fl:=
M.bind (makeV K call 250 [t12,t4,t16,t6,t22] []) λ t10=>M.pure (.ret t10)
abbrev c_758_2(K:Frag)(call:CallT)(t2 t4 t6 t12:V)(r18:Bool):M Fl:=
M.bind (if r18 then binV .Add (V.int 1) t2 else M.pure (V.int 0)) λ t16=>M.bind (cmpV .Eq t2 (V.int 3)) λ r24=>M.bind (if r24 then M.pure (V.int 1) else M.pure (V.int 0)) (c_758_1 K call t4 t6 t12 t16)
abbrev c_758_3(K:Frag)(call:CallT)(heap t2 t4 t6:V):M Fl:=
M.bind (call 751 [heap,(V.int 9)] []) λ t13=>M.bind (binV .Sub t13 (V.int 1)) λ t12=>M.bind (cmpV .Lt t2 (V.int 3)) (c_758_2 K call t2 t4 t6 t12)
abbrev c_758(K:Frag)(call:CallT)(heap:V):M Fl:=
M.bind (call 751 [heap,(V.int 16)] []) λ t2=>M.bind (call 751 [heap,(V.int 6)] []) λ t4=>M.bind (call 751 [heap,(V.int 4)] []) (c_758_3 K call heap t2 t4)
abbrev c_765_1(K:Frag)(t0 t4:V):M Fl:=
M.bind (binV .Sub t0 (V.int 1)) λ t18=>M.bind (setA K t4 "shift" t18) λ _=>M.pure (.ret t4)
abbrev c_765_2(K:Frag)(call:CallT)(t0 t6 t9 t11 t15:V):M Fl:=
M.bind (binV .Sub t15 (V.int 1)) λ t14=>M.bind (alloc (.list [])) λ t17=>M.bind (makeV K call 354 [t6,t9,t11,t14,t17] []) (c_765_1 K t0)
abbrev c_765_3(K:Frag)(call:CallT)(heap t0 t6 t9:V):M Fl:=
M.bind (call 751 [heap,(V.int 20)] []) λ t12=>M.bind (binV .Add (V.int 1) t12) λ t11=>M.bind (call 751 [heap,(V.int 6)] []) (c_765_2 K call t0 t6 t9 t11)
abbrev c_765_4(K:Frag)(call:CallT)(heap t0:V):M Fl:=
M.bind (binV .Mod t0 (V.int 2)) λ t7=>M.bind (binV .Add (V.int 2) t7) λ t6=>M.bind (call 751 [heap,(V.int 9)] []) (c_765_3 K call heap t0 t6)
abbrev c_765_5(K:Frag)(call:CallT)(t25 t29:V):M Fl:=
M.bind (makeV K call 375 [V.none,t25,t29] []) λ t22=>M.pure (.ret t22)
abbrev c_765_6(K:Frag)(call:CallT)(heap t25:V):M Fl:=
M.bind (alloc (.list [V.none,(V.int 2)])) λ t30=>M.bind (call 751 [heap,(V.int 2)] []) λ t31=>M.bind (getI t30 t31) (c_765_5 K call t25)
abbrev c_765_7(K:Frag)(call:CallT)(heap:V):M Fl:=
M.bind (alloc (.list [V.none,(V.int 3)])) λ t26=>M.bind (call 751 [heap,(V.int 2)] []) λ t27=>M.bind (getI t26 t27) (c_765_6 K call heap)
abbrev c_765_8(K:Frag)(call:CallT)(heap:V):M Fl:=
M.bind (call 758 [heap] []) λ t37=>M.bind (makeV K call 418 [t37,(V.int 0)] []) λ t35=>M.pure (.ret t35)
abbrev c_765_9(K:Frag)(call:CallT)(heap:V):M Fl:=
M.bind (call 751 [heap,(V.int 9)] []) λ t44=>M.bind (binV .Sub t44 (V.int 2)) λ t43=>M.bind (makeV K call 396 [t43,(V.int 1)] []) λ t41=>M.pure (.ret t41)
abbrev c_765_10(K:Frag)(call:CallT)(t50:V):M Fl:=
M.bind (makeV K call 439 [t50] []) λ t48=>M.pure (.ret t48)
abbrev c_765_11(K:Frag)(call:CallT)(heap:V):M Fl:=
M.bind (alloc (.list [(V.int 0),(V.int (-10000)),(V.int (-200)),(V.int 50),(V.int 9999),(V.int 10000),(V.int 70),(V.int (-12000))])) λ t51=>M.bind (call 751 [heap,(V.int 8)] []) λ t63=>M.bind (getI t51 t63) (c_765_10 K call)
abbrev c_765_12(K:Frag)(call:CallT)(heap:V):M Fl:=
M.bind (call 751 [heap,(V.int 50)] []) λ t74=>M.bind (makeV K call 460 [(V.tup [(V.tup [(V.int 11),t74])])] []) λ t67=>M.pure (.ret t67)
abbrev c_765_13(K:Frag)(call:CallT):M V:=
M.bind (makeV K call 250 [] []) λ t84=>M.bind (alloc (.list [])) λ t87=>makeV K call 481 [(V.int 3),(V.int 7),(V.int 0),t84,(V.int 0),t87] []
abbrev c_765_14(K:Frag)(call:CallT)(heap:V):M Fl:=
M.bind (call 751 [heap,(V.int 2)] []) λ t77=>M.bind (cmpV .Eq t77 (V.int 0)) λ r78=>M.bind (if r78 then(c_765_13 K call) else makeV K call 502 [(V.byt (#[118]))] []) λ t75=>M.pure (.ret t75)
abbrev c_765_15(K:Frag)(call:CallT)(heap t0:V):M Fl:=
M.bind (cmpV .Eq t0 (V.int 13)) λ r65=>if r65 then(c_765_12 K call heap) else(c_765_14 K call heap)
abbrev c_765_16(K:Frag)(call:CallT)(heap t0:V):M Fl:=
M.bind (cmpV .Lt t0 (V.int 13)) λ r46=>if r46 then(c_765_11 K call heap) else(c_765_15 K call heap t0)
abbrev c_765_17(K:Frag)(call:CallT)(heap t0:V):M Fl:=
M.bind (cmpV .Eq t0 (V.int 9)) λ r39=>if r39 then(c_765_9 K call heap) else(c_765_16 K call heap t0)
abbrev c_765_18(K:Frag)(call:CallT)(heap t0:V):M Fl:=
M.bind (cmpV .Lt t0 (V.int 9)) λ r33=>if r33 then(c_765_8 K call heap) else(c_765_17 K call heap t0)
abbrev c_765_19(K:Frag)(call:CallT)(heap t0:V):M Fl:=
M.bind (cmpV .Eq t0 (V.int 4)) λ r20=>if r20 then(c_765_7 K call heap) else(c_765_18 K call heap t0)
abbrev c_765(K:Frag)(call:CallT)(heap:V):M Fl:=
M.bind (call 751 [heap,(V.int 15)] []) λ t0=>M.bind (cmpV .Lt t0 (V.int 4)) λ r2=>if r2 then(c_765_4 K call heap t0) else(c_765_19 K call heap t0)
abbrev c_770_1(v25:V):M (Option V):=
M.bind (cmpV .IsNot v25 V.none) λ r29=>if r29 then M.pure (some v25) else M.pure none
abbrev c_770_2(t19:V):M V:=
M.bind (toSrc t19) λ src24=>M.bind (compLoop 200 src24 0 (c_770_1)) λ vs26=>M.bind (alloc (.list vs26)) λ t18=>bcall (.builtin "sum") [t18]
abbrev c_770_3(K:Frag)(node:V):M V:=
M.bind (getA K node "height") λ t21=>M.bind (getA K node "depth") λ t23=>M.bind (alloc (.list [t21,t23])) (c_770_2)
abbrev c_770_4(K:Frag)(node t12:V):M Fl:=
M.bind (asB t12) λ b16=>M.bind (if b16 then(c_770_3 K node) else M.pure (V.int 0)) λ t11=>M.pure (.ret t11)
abbrev c_770_5(K:Frag)(node:V):M Fl:=
M.bind (getA K node "kind") λ t13=>M.bind (cmpV .LtE (V.int 2) t13) λ r14=>M.bind (if r14 then(c_415_4 t13) else M.pure (V.bool false)) (c_770_4 K node)
abbrev c_770_6(K:Frag)(node:V):M Fl:=
M.bind (getA K node "kind") λ t7=>M.bind (cmpV .Eq t7 (V.int 5)) λ r8=>if r8 then(c_537_8 K node) else(c_770_5 K node)
abbrev c_770(K:Frag)(call:CallT)(node:V):M Fl:=
M.bind (getA K node "kind") λ t1=>M.bind (cmpV .Eq t1 (V.int 6)) λ r2=>if r2 then(c_537_10 K node) else(c_770_6 K node)
abbrev c_775_1(call:CallT)(v4:V):M (Option V):=
M.bind (call 770 [v4] []) λ t6=>M.pure (some t6)
abbrev c_775_2(t2:V):M Fl:=
M.bind (bcall (.builtin "sum") [t2]) λ t0=>M.pure (.ret t0)
abbrev c_775(K:Frag)(call:CallT)(items:V):M Fl:=
M.bind (toSrc items) λ src3=>M.bind (compLoop 200 src3 0 (c_775_1 call)) λ vs5=>M.bind (alloc (.list vs5)) (c_775_2)
abbrev c_780_1(t7:V):M V:=
M.bind (cmpV .LtE t7 (V.int 6)) λ r9=>M.pure (V.bool r9)
abbrev c_780_2(v3 t6:V):M (Option V):=
M.bind (asB t6) λ b5=>if b5 then M.pure (some v3) else M.pure none
abbrev c_780_3(K:Frag)(v3:V):M (Option V):=
M.bind (getA K v3 "kind") λ t7=>M.bind (cmpV .LtE (V.int 2) t7) λ r8=>M.bind (if r8 then(c_780_1 t7) else M.pure (V.bool false)) (c_780_2 v3)
abbrev c_780_4(K:Frag)(t0:V):M V:=
M.bind (getI t0 (V.int 0)) λ t24=>M.bind (getA K t24 "depth") λ t23=>M.bind (cmpV .Is t23 V.none) λ r25=>M.pure (V.bool r25)
abbrev c_780_5(K:Frag)(t0:V)(r20:Bool):M V:=
if r20 then M.pure (V.bool true) else(c_780_4 K t0)
abbrev c_780_6(K:Frag)(t0:V):M V:=
M.bind (getI t0 (V.int 0)) λ t19=>M.bind (getA K t19 "kind") λ t18=>M.bind (cmpV .Gt t18 (V.int 4)) (c_780_5 K t0)
abbrev c_780_7(K:Frag)(t0:V):M V:=
M.bind (getI t0 (V.int 0)) λ t28=>getA K t28 "depth"
abbrev c_780_8(most t11:V):M Fl:=
M.bind (bcall (.builtin "min") [t11,most]) λ t29=>M.pure (.ret t29)
abbrev c_780_9(K:Frag)(most t0:V)(r15:Bool):M Fl:=
M.bind (if r15 then M.pure (V.bool true) else(c_780_6 K t0)) λ t12=>M.bind (asB t12) λ b27=>M.bind (if b27 then M.pure (V.int 0) else(c_780_7 K t0)) (c_780_8 most)
abbrev c_780_10(K:Frag)(most t1:V):M Fl:=
M.bind (sliceV K t1 (V.int (-1)) V.none) λ t0=>M.bind (alloc (.list [])) λ t14=>M.bind (cmpV .Eq t0 t14) (c_780_9 K most t0)
abbrev c_780(K:Frag)(call:CallT)(items most:V):M Fl:=
M.bind (toSrc items) λ src2=>M.bind (compLoop 200 src2 0 (c_780_3 K)) λ vs4=>M.bind (alloc (.list vs4)) (c_780_10 K most)
abbrev c_785_1(K:Frag)(v2:V):M (Option V):=
M.bind (getA K v2 "glue") λ t4=>M.pure (some t4)
abbrev c_785_2(K:Frag)(v2:V):M (Option V):=
M.bind (getA K v2 "kind") λ t7=>M.bind (cmpV .Eq t7 (V.int 6)) λ r8=>if r8 then(c_785_1 K v2) else M.pure none
abbrev c_785_3(K:Frag)(v14:V):M (Option V):=
M.bind (getA K v14 "stretch") λ t16=>M.pure (some t16)
abbrev c_785_4(K:Frag)(order v14:V):M (Option V):=
M.bind (getA K v14 "stretch_order") λ t19=>M.bind (cmpV .Eq t19 order) λ r20=>if r20 then(c_785_3 K v14) else M.pure none
abbrev c_785_5(K:Frag)(order t0:V):M Fl:=
M.bind (toSrc t0) λ src13=>M.bind (compLoop 200 src13 0 (c_785_4 K order)) λ vs15=>M.bind (alloc (.list vs15)) (c_775_2)
abbrev c_785_6(K:Frag)(v25:V):M (Option V):=
M.bind (getA K v25 "shrink") λ t27=>M.pure (some t27)
abbrev c_785_7(K:Frag)(order v25:V):M (Option V):=
M.bind (getA K v25 "shrink_order") λ t30=>M.bind (cmpV .Eq t30 order) λ r31=>if r31 then(c_785_6 K v25) else M.pure none
abbrev c_785_8(K:Frag)(order t0:V):M Fl:=
M.bind (toSrc t0) λ src24=>M.bind (compLoop 200 src24 0 (c_785_7 K order)) λ vs26=>M.bind (alloc (.list vs26)) (c_775_2)
abbrev c_785_9(K:Frag)(order is_more t0:V):M Fl:=
M.bind (asB is_more) λ b9=>if b9 then(c_785_5 K order t0) else(c_785_8 K order t0)
abbrev c_785(K:Frag)(call:CallT)(items order is_more:V):M Fl:=
M.bind (toSrc items) λ src1=>M.bind (compLoop 200 src1 0 (c_785_2 K)) λ vs3=>M.bind (alloc (.list vs3)) (c_785_9 K order is_more)
abbrev c_792_1(excess total:V):M V:=
M.bind (binV .Mult (V.int 297) excess) λ t7=>binV .FloorDiv t7 total
abbrev c_792_2(t13 t15:V):M V:=
M.bind (binV .Add t13 t15) λ t12=>M.bind (binV .Pow (V.int 2) (V.int 19)) λ t16=>binV .FloorDiv t12 t16
abbrev c_792_3(t3:V):M V:=
M.bind (binV .Pow t3 (V.int 3)) λ t14=>M.bind (binV .Mult (V.int 2) t14) λ t13=>M.bind (binV .Pow (V.int 2) (V.int 18)) (c_792_2 t13)
abbrev c_792_4(t3:V)(r10:Bool):M Fl:=
M.bind (if r10 then M.pure (V.int 10000) else(c_792_3 t3)) λ t8=>M.pure (.ret t8)
abbrev c_792_5(excess total:V):M Fl:=
M.bind (cmpV .Gt total (V.int 0)) λ r5=>M.bind (if r5 then(c_792_1 excess total) else M.pure (V.int 1291)) λ t3=>M.bind (cmpV .Gt t3 (V.int 1290)) (c_792_4 t3)
abbrev c_792(K:Frag)(call:CallT)(excess total:V):M Fl:=
M.bind (cmpV .Eq excess (V.int 0)) λ r1=>if r1 then M.pure (.ret (V.int 0)) else(c_792_5 excess total)
abbrev c_797_1(K:Frag)(items at_:V):M V:=
M.bind (getI items at_) λ t16=>getA K t16 "value"
abbrev c_797_2(K:Frag)(items at_:V)(r14:Bool):M Fl:=
M.bind (if r14 then(c_797_1 K items at_) else M.pure V.none) λ t10=>M.pure (.ret t10)
abbrev c_797_3(K:Frag)(items at_:V):M Fl:=
M.bind (getI items at_) λ t13=>M.bind (getA K t13 "value") λ t12=>M.bind (cmpV .Lt t12 (V.int 10000)) (c_797_2 K items at_)
abbrev c_797_4(t26:V):M V:=
M.bind (cmpV .NotIn t26 (V.tup [(V.int 5),(V.int 6),(V.int 7)])) λ r29=>M.pure (V.bool r29)
abbrev c_797_5(K:Frag)(items at_:V):M V:=
M.bind (binV .Sub at_ (V.int 1)) λ t28=>M.bind (getI items t28) λ t27=>M.bind (getA K t27 "kind") (c_797_4)
abbrev c_797_6(K:Frag)(items at_:V):M Fl:=
M.bind (cmpV .Gt at_ (V.int 0)) λ r23=>M.bind (if r23 then(c_797_5 K items at_) else M.pure (V.bool false)) λ t21=>M.bind (asB t21) (c_697_3)
abbrev c_797_7(K:Frag)(v43:V):M (Option V):=
M.bind (getA K v43 "kind") λ t45=>M.pure (some t45)
abbrev c_797_8(t38:V):M V:=
M.bind (alloc (.list [(V.int 6)])) λ t46=>M.bind (cmpV .Eq t38 t46) λ r47=>M.pure (V.bool r47)
abbrev c_797_9(K:Frag)(t39:V):M V:=
M.bind (toSrc t39) λ src42=>M.bind (compLoop 200 src42 0 (c_797_7 K)) λ vs44=>M.bind (alloc (.list vs44)) (c_797_8)
abbrev c_797_10(K:Frag)(items at_:V):M V:=
M.bind (binV .Add at_ (V.int 1)) λ t40=>M.bind (binV .Add at_ (V.int 2)) λ t41=>M.bind (sliceV K items t40 t41) (c_797_9 K)
abbrev c_797_11(K:Frag)(items at_ t5:V):M Fl:=
M.bind (cmpV .Eq t5 (V.int 5)) λ r35=>M.bind (if r35 then(c_797_10 K items at_) else M.pure (V.bool false)) λ t33=>M.bind (asB t33) (c_697_3)
abbrev c_797_12(K:Frag)(items at_ t5:V):M Fl:=
M.bind (cmpV .Eq t5 (V.int 6)) λ r18=>if r18 then(c_797_6 K items at_) else(c_797_11 K items at_ t5)
abbrev c_797_13(K:Frag)(items at_ t5:V)(r8:Bool):M Fl:=
if r8 then(c_797_3 K items at_) else(c_797_12 K items at_ t5)
abbrev c_797_14(K:Frag)(items at_:V):M Fl:=
M.bind (getI items at_) λ t6=>M.bind (getA K t6 "kind") λ t5=>M.bind (cmpV .Eq t5 (V.int 7)) (c_797_13 K items at_ t5)
abbrev c_797(K:Frag)(call:CallT)(items at_:V):M Fl:=
M.bind (bcall (.builtin "len") [items]) λ t1=>M.bind (cmpV .Eq at_ t1) λ r2=>if r2 then M.pure (.ret (V.int (-10000))) else(c_797_14 K items at_)
abbrev c_802_1(call:CallT)(above goal most:V):M V:=
M.bind (call 775 [above] []) λ t6=>M.bind (call 780 [above,most] []) λ t7=>M.bind (binV .Sub t6 t7) λ t5=>binV .Sub goal t5
abbrev c_802_2(call:CallT)(above v25:V):M (Option V):=
M.bind (call 785 [above,v25,(V.bool true)] []) λ t29=>M.bind (cmpV .NotEq t29 (V.int 0)) λ r30=>if r30 then M.pure (some v25) else M.pure none
abbrev c_802_3(t23:V):M V:=
M.bind (alloc (.list [])) λ t31=>M.bind (cmpV .NotEq t23 t31) λ r32=>M.pure (V.bool r32)
abbrev c_802_4(call:CallT)(above:V):M V:=
M.bind (toSrc (V.tup [(V.int 1),(V.int 2),(V.int 3)])) λ src24=>M.bind (compLoop 200 src24 0 (c_802_2 call above)) λ vs26=>M.bind (alloc (.list vs26)) (c_802_3)
abbrev c_802_5(call:CallT)(above t0:V):M V:=
M.bind (unV .USub t0) λ t40=>M.bind (call 785 [above,(V.int 0),(V.bool false)] []) λ t41=>M.bind (cmpV .Gt t40 t41) λ r42=>M.pure (V.bool r42)
abbrev c_802_6:M Fl:=
M.bind (binV .Pow (V.int 2) (V.int 30)) λ t46=>M.bind (binV .Sub t46 (V.int 1)) λ t45=>M.pure (.ret t45)
abbrev c_802_7(fee:V):M Fl:=
M.bind (cmpV .Lt (V.int 0) (V.int 10000)) λ r53=>M.bind (if r53 then binV .Add (V.int 0) fee else M.pure (V.int 100000)) λ t51=>M.pure (.ret t51)
abbrev c_802_8(fee:V):M Fl:=
M.bind (cmpV .LtE fee (V.int (-10000))) λ r49=>if r49 then M.pure (.ret fee) else(c_802_7 fee)
abbrev c_802_9(fee:V)(b44:Bool):M Fl:=
if b44 then(c_802_6) else(c_802_8 fee)
abbrev c_802_10(call:CallT)(above fee t0:V):M Fl:=
M.bind (cmpV .Lt t0 (V.int 0)) λ r37=>M.bind (if r37 then(c_802_5 call above t0) else M.pure (V.bool false)) λ t35=>M.bind (asB t35) (c_802_9 fee)
abbrev c_802_11(fee t8:V)(b64:Bool):M Fl:=
if b64 then(c_802_6) else(c_704_2 fee t8)
abbrev c_802_12(call:CallT)(above fee t0 t8:V):M Fl:=
M.bind (cmpV .Lt t0 (V.int 0)) λ r57=>M.bind (if r57 then(c_802_5 call above t0) else M.pure (V.bool false)) λ t55=>M.bind (asB t55) (c_802_11 fee t8)
abbrev c_802_13(call:CallT)(above fee t0 t8 t18:V):M Fl:=
M.bind (asB t18) λ b34=>if b34 then(c_802_10 call above fee t0) else(c_802_12 call above fee t0 t8)
abbrev c_802_14(call:CallT)(above fee t0 t10 t12:V):M Fl:=
M.bind (call 792 [t10,t12] []) λ t8=>M.bind (cmpV .Gt t0 (V.int 0)) λ r20=>M.bind (if r20 then(c_802_4 call above) else M.pure (V.bool false)) (c_802_13 call above fee t0 t8)
abbrev c_802_15(call:CallT)(above fee t0:V):M Fl:=
M.bind (bcall (.builtin "abs") [t0]) λ t10=>M.bind (cmpV .Gt t0 (V.int 0)) λ r17=>M.bind (call 785 [above,(V.int 0),(V.bool r17)] []) (c_802_14 call above fee t0 t10)
abbrev c_802(K:Frag)(call:CallT)(above fee goal most:V):M Fl:=
M.bind (alloc (.list [])) λ t2=>M.bind (cmpV .NotEq above t2) λ r3=>M.bind (if r3 then(c_802_1 call above goal most) else M.pure goal) (c_802_15 call above fee)
abbrev c_807_1(t15:V):M V:=
M.bind (cmpV .Gt t15 (V.int 0)) λ r18=>M.pure (V.bool r18)
abbrev c_807_2(K:Frag)(items v5:V):M V:=
M.bind (getI items v5) λ t17=>M.bind (getA K t17 "glue") λ t16=>M.bind (getA K t16 "shrink_order") (c_807_1)
abbrev c_807_3(K:Frag)(items v5:V)(r12:Bool):M (Option V):=
M.bind (if r12 then(c_807_2 K items v5) else M.pure (V.bool false)) λ t8=>M.bind (asB t8) λ b7=>if b7 then M.pure (some v5) else M.pure none
abbrev c_807_4(K:Frag)(items v5:V):M (Option V):=
M.bind (getI items v5) λ t11=>M.bind (getA K t11 "kind") λ t10=>M.bind (cmpV .Eq t10 (V.int 6)) (c_807_3 K items v5)
abbrev c_807_5(v26 t36:V):M V:=
M.bind (getI t36 (V.int 0)) λ t35=>M.bind (cmpV .LtE v26 t35) λ r40=>M.pure (V.bool r40)
abbrev c_807_6(items t0 v26:V):M V:=
M.bind (bcall (.builtin "len") [items]) λ t39=>M.bind (alloc (.list [t39])) λ t37=>M.bind (binV .Add t0 t37) (c_807_5 v26)
abbrev c_807_7(call:CallT)(items t0 v26:V):M (Option V):=
M.bind (call 797 [items,v26] []) λ t31=>M.bind (cmpV .IsNot t31 V.none) λ r32=>M.bind (if r32 then(c_807_6 items t0 v26) else M.pure (V.bool false)) (c_780_2 v26)
abbrev c_807_8(K:Frag)(call:CallT)(items goal most v44:V):M (Option V):=
M.bind (sliceV K items V.none v44) λ t48=>M.bind (call 797 [items,v44] []) λ t50=>M.bind (call 802 [t48,t50,goal,most] []) λ t46=>M.pure (some t46)
abbrev c_807_9(call:CallT)(items t20 v56:V):M V:=
M.bind (getI t20 v56) λ t70=>M.bind (call 797 [items,t70] []) λ t67=>M.bind (cmpV .LtE t67 (V.int (-10000))) λ r72=>M.pure (V.bool r72)
abbrev c_807_10(call:CallT)(items t20 v56 t61 t62:V):M (Option V):=
M.bind (cmpV .Eq t61 t62) λ r64=>M.bind (if r64 then M.pure (V.bool true) else(c_807_9 call items t20 v56)) λ t59=>M.bind (asB t59) λ b58=>if b58 then M.pure (some v56) else M.pure none
abbrev c_807_11(call:CallT)(items t20 t42 v56:V):M (Option V):=
M.bind (getI t42 v56) λ t61=>M.bind (binV .Pow (V.int 2) (V.int 30)) λ t63=>M.bind (binV .Sub t63 (V.int 1)) (c_807_10 call items t20 v56 t61)
abbrev c_807_12(t78 v88:V):M (Option V):=
M.bind (getI t78 v88) λ t92=>M.bind (bcall (.builtin "min") [t78]) λ t93=>M.bind (cmpV .Eq t92 t93) λ r94=>if r94 then M.pure (some v88) else M.pure none
abbrev c_807_13(t20 t78 t81:V):M Fl:=
M.bind (getI t20 t81) λ t97=>M.bind (getI t78 t81) λ t99=>M.pure (.ret (V.tup [t97,t99]))
abbrev c_807_14(t20 t78:V)(src87:Src):M Fl:=
M.bind (compLoop 200 src87 0 (c_807_12 t78)) λ vs89=>M.bind (alloc (.list vs89)) λ t83=>M.bind (bcall (.builtin "max") [t83]) (c_807_13 t20 t78)
abbrev c_807_15(t20 t78:V):M Fl:=
M.bind (bcall (.builtin "len") [t78]) λ t86=>M.bind (bcall (.type "range") [t86]) λ t84=>M.bind (toSrc t84) (c_807_14 t20 t78)
abbrev c_807_16(K:Frag)(t20 t42 t51:V):M Fl:=
M.bind (getI t51 (V.int 0)) λ t80=>M.bind (binV .Add t80 (V.int 1)) λ t79=>M.bind (sliceV K t42 V.none t79) (c_807_15 t20)
abbrev c_807_17(K:Frag)(t20 t42 t51:V)(r76:Bool):M Fl:=
if r76 then M.pure (.ret V.none) else(c_807_16 K t20 t42 t51)
abbrev c_807_18(K:Frag)(t20 t42:V)(vs57:List V):M Fl:=
M.bind (alloc (.list vs57)) λ t51=>M.bind (alloc (.list [])) λ t75=>M.bind (cmpV .Eq t51 t75) (c_807_17 K t20 t42 t51)
abbrev c_807_19(K:Frag)(call:CallT)(items t20 t42 t54:V):M Fl:=
M.bind (bcall (.type "range") [t54]) λ t52=>M.bind (toSrc t52) λ src55=>M.bind (compLoop 200 src55 0 (c_807_11 call items t20 t42)) (c_807_18 K t20 t42)
abbrev c_807_20(K:Frag)(call:CallT)(items goal most t20:V)(src43:Src):M Fl:=
M.bind (compLoop 200 src43 0 (c_807_8 K call items goal most)) λ vs45=>M.bind (alloc (.list vs45)) λ t42=>M.bind (bcall (.builtin "len") [t20]) (c_807_19 K call items t20 t42)
abbrev c_807_21(K:Frag)(call:CallT)(items goal most t0:V)(src25:Src):M Fl:=
M.bind (compLoop 200 src25 0 (c_807_7 call items t0)) λ vs27=>M.bind (alloc (.list vs27)) λ t20=>M.bind (toSrc t20) (c_807_20 K call items goal most t20)
abbrev c_807_22(K:Frag)(call:CallT)(items goal most t0 t24:V):M Fl:=
M.bind (binV .Add t24 (V.int 1)) λ t23=>M.bind (bcall (.type "range") [t23]) λ t21=>M.bind (toSrc t21) (c_807_21 K call items goal most t0)
abbrev c_807_23(K:Frag)(call:CallT)(items goal most:V)(src4:Src):M Fl:=
M.bind (compLoop 200 src4 0 (c_807_4 K items)) λ vs6=>M.bind (alloc (.list vs6)) λ t0=>M.bind (bcall (.builtin "len") [items]) (c_807_22 K call items goal most t0)
abbrev c_807(K:Frag)(call:CallT)(items goal most:V):M Fl:=
M.bind (bcall (.builtin "len") [items]) λ t3=>M.bind (bcall (.type "range") [t3]) λ t1=>M.bind (toSrc t1) (c_807_23 K call items goal most)
abbrev c_812_1(call:CallT)(items gap v3:V):M (Option V):=
M.bind (cmpV .Gt gap (V.int 0)) λ r10=>M.bind (call 785 [items,v3,(V.bool r10)] []) λ t5=>M.pure (some t5)
abbrev c_812_2(K:Frag)(t0:V):M V:=
M.bind (sliceV K t0 (V.int 1) V.none) λ t20=>M.bind (alloc (.list [(V.int 0),(V.int 0),(V.int 0)])) λ t21=>M.bind (cmpV .NotEq t20 t21) λ r22=>M.pure (V.bool r22)
abbrev c_812_3(K:Frag)(gap t0:V):M V:=
M.bind (cmpV .Eq gap (V.int 0)) λ r17=>if r17 then M.pure (V.bool true) else(c_812_2 K t0)
abbrev c_812_4(call:CallT)(gap t0:V):M Fl:=
M.bind (getI t0 (V.int 0)) λ t34=>M.bind (call 792 [gap,t34] []) λ t31=>M.pure (.ret (V.tup [(V.int 1),t31]))
abbrev c_812_5(gap t0:V):M V:=
M.bind (unV .USub gap) λ t44=>M.bind (getI t0 (V.int 0)) λ t45=>M.bind (binV .Sub t44 t45) λ t43=>M.pure (V.tup [(V.int 3),t43])
abbrev c_812_6(call:CallT)(gap t0:V):M V:=
M.bind (unV .USub gap) λ t50=>M.bind (getI t0 (V.int 0)) λ t52=>M.bind (call 792 [t50,t52] []) λ t48=>M.pure (V.tup [(V.int 2),t48])
abbrev c_812_7(call:CallT)(gap t0:V)(r39:Bool):M Fl:=
M.bind (if r39 then(c_812_5 gap t0) else(c_812_6 call gap t0)) λ t35=>M.pure (.ret t35)
abbrev c_812_8(call:CallT)(gap t0:V):M Fl:=
M.bind (getI t0 (V.int 0)) λ t37=>M.bind (unV .USub gap) λ t38=>M.bind (cmpV .Lt t37 t38) (c_812_7 call gap t0)
abbrev c_812_9(call:CallT)(gap t0:V):M Fl:=
M.bind (cmpV .Gt gap (V.int 0)) λ r26=>if r26 then(c_812_4 call gap t0) else(c_812_8 call gap t0)
abbrev c_812_10(K:Frag)(call:CallT)(gap t0:V)(r14:Bool):M Fl:=
M.bind (if r14 then M.pure (V.bool true) else(c_812_3 K gap t0)) λ t11=>M.bind (asB t11) λ b24=>if b24 then M.pure (.ret (V.tup [(V.int 0),(V.int 0)])) else(c_812_9 call gap t0)
abbrev c_812_11(K:Frag)(call:CallT)(items gap:V)(vs4:List V):M Fl:=
M.bind (alloc (.list vs4)) λ t0=>M.bind (alloc (.list [])) λ t13=>M.bind (cmpV .Eq items t13) (c_812_10 K call gap t0)
abbrev c_812(K:Frag)(call:CallT)(items gap:V):M Fl:=
M.bind (bcall (.type "range") [(V.int 4)]) λ t1=>M.bind (toSrc t1) λ src2=>M.bind (compLoop 200 src2 0 (c_812_1 call items gap)) (c_812_11 K call items gap)
abbrev c_817_1(v5 t9:V)(r11:Bool):M (Option V):=
M.bind (if r11 then(c_415_4 t9) else M.pure (V.bool false)) λ t8=>M.bind (asB t8) λ b7=>if b7 then M.pure (some v5) else M.pure none
abbrev c_817_2(K:Frag)(below v5:V):M (Option V):=
M.bind (getI below v5) λ t10=>M.bind (getA K t10 "kind") λ t9=>M.bind (cmpV .LtE (V.int 2) t9) (c_817_1 v5 t9)
abbrev c_817_3(call:CallT)(v21:V):M (Option V):=
M.bind (call 526 [v21] []) λ t23=>M.pure (some t23)
abbrev c_817_4(K:Frag)(call:CallT)(v21:V):M (Option V):=
M.bind (getA K v21 "kind") λ t26=>M.bind (cmpV .In t26 (V.tup [(V.int 9),(V.int 10),(V.int 13)])) λ r27=>if r27 then(c_817_3 call v21) else M.pure none
abbrev c_817_5(t18:V):M Fl:=
M.bind (bcall (.type "tuple") [t18]) λ t32=>M.pure (.ret t32)
abbrev c_817_6(K:Frag)(below t13:V):M V:=
M.bind (getI below t13) λ t39=>getA K t39 "height"
abbrev c_817_7(K:Frag)(call:CallT)(below t13 t52:V):M Fl:=
M.bind (sliceV K below t13 V.none) λ t64=>M.bind (call 532 [t64] []) λ t62=>M.bind (binV .Add t52 t62) λ t51=>M.pure (.ret t51)
abbrev c_817_8(K:Frag)(call:CallT)(below t13 t18 t40 t61:V):M Fl:=
M.bind (alloc (.list [(V.tup [(V.int 6),t40,t61,(V.tup [])])])) λ t55=>M.bind (binV .Add t18 t55) λ t54=>M.bind (bcall (.type "tuple") [t54]) (c_817_7 K call below t13)
abbrev c_817_9(K:Frag)(call:CallT)(below t13 t18 t43 t49:V):M Fl:=
M.bind (sliceV K t49 (V.int 1) V.none) λ t48=>M.bind (binV .Add (V.tup [t43]) t48) λ t40=>M.bind (binV .Add (V.int 100) (V.int 8)) (c_817_8 K call below t13 t18 t40)
abbrev c_817_10(K:Frag)(call:CallT)(below top t13 t18 t46:V):M Fl:=
M.bind (bcall (.builtin "max") [(V.int 0),t46]) λ t43=>M.bind (methF K top "parts") λ mk50=>M.bind (methC call mk50 top []) (c_817_9 K call below t13 t18 t43)
abbrev c_817_11(K:Frag)(call:CallT)(below top t13 t18:V)(r37:Bool):M Fl:=
M.bind (if r37 then(c_817_6 K below t13) else M.pure (V.int 0)) λ t33=>M.bind (getA K top "width") λ t47=>M.bind (binV .Sub t47 t33) (c_817_10 K call below top t13 t18)
abbrev c_817_12(K:Frag)(call:CallT)(below top t13 t18:V):M Fl:=
M.bind (getI below t13) λ t36=>M.bind (getA K t36 "height") λ t35=>M.bind (cmpV .IsNot t35 V.none) (c_817_11 K call below top t13 t18)
abbrev c_817_13(K:Frag)(call:CallT)(below top t13 t18:V)(r30:Bool):M Fl:=
if r30 then(c_817_5 t18) else(c_817_12 K call below top t13 t18)
abbrev c_817_14(K:Frag)(call:CallT)(below top t0 t13:V)(vs22:List V):M Fl:=
M.bind (alloc (.list vs22)) λ t18=>M.bind (alloc (.list [])) λ t29=>M.bind (cmpV .Eq t0 t29) (c_817_13 K call below top t13 t18)
abbrev c_817_15(K:Frag)(call:CallT)(below top t0 t13:V):M Fl:=
M.bind (sliceV K below V.none t13) λ t19=>M.bind (toSrc t19) λ src20=>M.bind (compLoop 200 src20 0 (c_817_4 K call)) (c_817_14 K call below top t0 t13)
abbrev c_817_16(K:Frag)(call:CallT)(below top t0 t17:V):M Fl:=
M.bind (alloc (.list [t17])) λ t15=>M.bind (binV .Add t0 t15) λ t14=>M.bind (getI t14 (V.int 0)) (c_817_15 K call below top t0)
abbrev c_817_17(K:Frag)(call:CallT)(below top:V)(src4:Src):M Fl:=
M.bind (compLoop 200 src4 0 (c_817_2 K below)) λ vs6=>M.bind (alloc (.list vs6)) λ t0=>M.bind (bcall (.builtin "len") [below]) (c_817_16 K call below top t0)
abbrev c_817(K:Frag)(call:CallT)(below top:V):M Fl:=
M.bind (bcall (.builtin "len") [below]) λ t3=>M.bind (bcall (.type "range") [t3]) λ t1=>M.bind (toSrc t1) (c_817_17 K call below top)
def r_822(K:Frag)(call callH:CallT)(ρ11:Lo):M Fl:=
evSs K false call callH 57 (scOf K 822) ((bodyOf K 822).drop 3) ρ11 λ ρ'=>M.pure (.next ρ')
abbrev s_822_1(call:CallT)(goal cap items due:V):M V:=
M.bind (call 718 [items,goal,cap] []) λ t254=>M.bind (cmpV .NotEq t254 due) λ r255=>M.pure (V.bool r255)
abbrev s_822_2(call:CallT)(found goal cap items as_was due:V):M V:=
M.bind (call 526 [found] []) λ t250=>M.bind (cmpV .NotEq t250 as_was) λ r251=>if r251 then M.pure (V.bool true) else(s_822_1 call goal cap items due)
abbrev s_822_3(t288 t291:V):M V:=
M.bind (cmpV .NotEq t288 t291) λ r292=>M.pure (V.bool r292)
abbrev s_822_4(K:Frag)(call:CallT)(head t260:V):M V:=
M.bind (getA K head "items") λ t290=>M.bind (call 532 [t290] []) λ t288=>M.bind (call 532 [t260] []) (s_822_3 t288)
abbrev s_822_5(call:CallT)(report t260 t322:V):M V:=
M.bind (call 812 [t260,t322] []) λ t319=>M.bind (cmpV .NotEq report t319) λ r325=>M.pure (V.bool r325)
abbrev s_822_6(call:CallT)(goal report t260 t275:V):M V:=
M.bind (call 775 [t260] []) λ t324=>M.bind (binV .Sub goal t324) λ t323=>M.bind (binV .Add t323 t275) (s_822_5 call report t260)
abbrev s_822_7(rest:V):M V:=
M.bind (cmpV .Is rest V.none) λ r334=>M.pure (V.bool r334)
abbrev s_822_8(rest t328:V):M Fl:=
M.bind (cmpV .Eq t328 (V.tup [])) λ r341=>M.bind (if r341 then(s_822_7 rest) else M.pure (V.bool false)) λ t339=>M.pure (.ret (V.tup [t339,V.none]))
abbrev s_822_9(t346 t351 t353 t355 t357 t371:V):M V:=
M.bind (cmpV .Eq (V.tup [t351,t353,t355,t357]) (V.tup [(V.int 3),t371,t346,(V.int 0)])) λ r375=>M.pure (V.bool r375)
abbrev s_822_10(K:Frag)(call:CallT)(rest t346 t351 t353 t355 t357:V):M V:=
M.bind (getA K rest "items") λ t374=>M.bind (call 775 [t374] []) λ t372=>M.bind (binV .Sub t372 t346) (s_822_9 t346 t351 t353 t355 t357)
abbrev s_822_11(K:Frag)(call:CallT)(rest t346 t351 t353 t355 t357:V)(r365:Bool):M Fl:=
M.bind (if r365 then(s_822_10 K call rest t346 t351 t353 t355 t357) else M.pure (V.bool false)) λ t360=>M.pure (.ret (V.tup [t360,rest]))
abbrev s_822_12(K:Frag)(call:CallT)(rest t328 t346 t351 t353 t355 t357:V):M Fl:=
M.bind (getA K rest "items") λ t364=>M.bind (call 532 [t364] []) λ t362=>M.bind (cmpV .Eq t362 t328) (s_822_11 K call rest t346 t351 t353 t355 t357)
abbrev s_822_13(K:Frag)(call:CallT)(rest t328 t346 t351:V):M Fl:=
M.bind (getA K rest "height") λ t353=>M.bind (getA K rest "depth") λ t355=>M.bind (getA K rest "sign") (s_822_12 K call rest t328 t346 t351 t353 t355)
abbrev s_822_14(K:Frag)(call:CallT)(most rest t328:V):M Fl:=
M.bind (getA K rest "items") λ t348=>M.bind (call 780 [t348,most] []) λ t346=>M.bind (getA K rest "kind") (s_822_13 K call rest t328 t346)
abbrev s_822_15(K:Frag)(call:CallT)(most rest t328 t329:V):M Fl:=
M.bind (asB t329) λ b336=>if b336 then(s_822_8 rest t328) else(s_822_14 K call most rest t328)
abbrev s_822_16(K:Frag)(call:CallT)(most top rest t263:V):M Fl:=
M.bind (call 817 [t263,top] []) λ t328=>M.bind (cmpV .Eq t328 (V.tup [])) λ r331=>M.bind (if r331 then M.pure (V.bool true) else(s_822_7 rest)) (s_822_15 K call most rest t328)
abbrev s_822_17(K:Frag)(call:CallT)(most top rest t263:V)(b327:Bool):M Fl:=
if b327 then M.pure (.ret (V.tup [(V.bool false),V.none])) else(s_822_16 K call most top rest t263)
abbrev s_822_18(K:Frag)(call:CallT)(goal most top rest marks report t260 t263 t275 t306:V):M Fl:=
M.bind (cmpV .NotEq marks t306) λ r316=>M.bind (if r316 then M.pure (V.bool true) else(s_822_6 call goal report t260 t275)) λ t304=>M.bind (asB t304) (s_822_17 K call most top rest t263)
abbrev s_822_19(K:Frag)(call:CallT)(goal most top rest marks report t260 t263 t275 t295:V):M Fl:=
M.bind (alloc (.list [])) λ t308=>M.bind (cmpV .NotEq t295 t308) λ r309=>M.bind (if r309 then(c_730_3 t295) else M.pure (V.tup [(V.tup []),(V.tup [])])) (s_822_18 K call goal most top rest marks report t260 t263 t275)
abbrev s_822_20(K:Frag)(call:CallT)(goal most top rest marks report t260 t263 t275:V):M Fl:=
M.bind (toSrc t260) λ src296=>M.bind (compLoop 200 src296 0 (c_730_2 K)) λ vs298=>M.bind (alloc (.list vs298)) (s_822_19 K call goal most top rest marks report t260 t263 t275)
abbrev s_822_21(K:Frag)(call:CallT)(goal most top rest marks report t260 t263 t275 t276:V):M Fl:=
M.bind (asB t276) λ b294=>if b294 then M.pure (.ret (V.tup [(V.bool false),V.none])) else(s_822_20 K call goal most top rest marks report t260 t263 t275)
abbrev s_822_22(K:Frag)(call:CallT)(goal most top head rest marks report t260 t263 t275 t280 t282:V):M Fl:=
M.bind (getA K head "depth") λ t284=>M.bind (cmpV .NotEq (V.tup [t280,t282,t284]) (V.tup [(V.int 3),goal,t275])) λ r285=>M.bind (if r285 then M.pure (V.bool true) else(s_822_4 K call head t260)) (s_822_21 K call goal most top rest marks report t260 t263 t275)
abbrev s_822_23(K:Frag)(call:CallT)(goal cap most top head rest marks report t260 t263:V):M Fl:=
M.bind (call 780 [t260,cap] []) λ t275=>M.bind (getA K head "kind") λ t280=>M.bind (getA K head "height") (s_822_22 K call goal most top head rest marks report t260 t263 t275 t280)
abbrev s_822_24(K:Frag)(call:CallT)(goal cap most top due head rest marks report t260 t263 t268 t272:V):M Fl:=
M.bind (binV .Add due (V.tup [t272])) λ t269=>M.bind (cmpV .NotEq t268 t269) λ r273=>if r273 then M.pure (.ret (V.tup [(V.bool false),V.none])) else(s_822_23 K call goal cap most top head rest marks report t260 t263)
abbrev s_822_25(K:Frag)(call:CallT)(goal cap most top items due head rest marks report t260 t264:V):M Fl:=
M.bind (sliceV K items t264 V.none) λ t263=>M.bind (call 711 [items,goal,cap] []) λ t268=>M.bind (call 775 [t260] []) (s_822_24 K call goal cap most top due head rest marks report t260 t263 t268)
abbrev s_822_26(K:Frag)(call:CallT)(goal cap most top items due head rest marks report:V):M Fl:=
M.bind (getI due (V.int 0)) λ t261=>M.bind (sliceV K items V.none t261) λ t260=>M.bind (getI due (V.int 0)) (s_822_25 K call goal cap most top items due head rest marks report t260)
abbrev s_822_27(K:Frag)(call:CallT)(goal cap most top items due head rest marks report:V)(b257:Bool):M Fl:=
if b257 then M.pure (.ret (V.tup [(V.bool false),V.none])) else(s_822_26 K call goal cap most top items due head rest marks report)
def s_822(K:Frag)(call:CallT)(found goal cap most top items as_was due head rest marks report:V):M Fl:=
M.bind (cmpV .Is due V.none) λ r247=>M.bind (if r247 then M.pure (V.bool true) else(s_822_2 call found goal cap items as_was due)) λ t245=>M.bind (asB t245) (s_822_27 K call goal cap most top items due head rest marks report)
abbrev c_822_1(callH:CallT)(found t6:V):M V:=
M.bind (callH 526 [found] []) λ t23=>M.bind (cmpV .Eq t23 t6) λ r24=>M.pure (V.bool r24)
abbrev c_822_2(callH:CallT)(found t6 t9:V):M Fl:=
M.bind (cmpV .Is t9 V.none) λ r20=>M.bind (if r20 then(c_822_1 callH found t6) else M.pure (V.bool false)) λ t18=>M.pure (.ret (V.tup [t18,V.none]))
abbrev c_822_3(K:Frag)(call:CallT)(callH:CallT)(found goal cap most top t2 t6:V):M Fl:=
M.bind (call 807 [t2,goal,cap] []) λ t9=>tryA (call 737 [found,goal,most,cap,top] []) (λ v10=>un4 v10 (λ a12 a13 a14 a15=>M.pure (.next [("found",found),("goal",goal),("cap",cap),("most",most),("top",top),("items",t2),("as_was",t6),("due",t9),("head",a12),("rest",a13),("marks",a14),("report",a15)]))) (c_822_2 callH found t6 t9) (r_822 K call callH)
abbrev c_822(K:Frag)(call callH:CallT)(found goal cap most top:V):M Fl:=
M.bind (getA K found "items") λ t4=>M.bind (bcall (.type "list") [t4]) λ t2=>M.bind (call 526 [found] []) (c_822_3 K call callH found goal cap most top t2)
abbrev r_827_1(ρ901:Lo)(k76:Lo→M Fl)(t78:V):M Fl:=
M.bind (asB t78) λ b80=>if b80 then M.pure (.ret (V.bool false)) else k76 ρ901
abbrev r_827_2(ρ902:Lo)(k76:Lo→M Fl):M Fl:=
M.bind (M.bind (ofO (lk "good" ρ902)) λ t79=>unV .Not t79) (r_827_1 ρ902 k76)
abbrev r_827_3(ρ903:Lo)(k57:Lo→M Fl)(a74 a75:V):M Fl:=
jp k57 (r_827_2 (put "found" a75 (put "good" a74 ρ903)))
abbrev r_827_4(ρ904:Lo)(k57:Lo→M Fl)(t63:V):M Fl:=
un2 t63 (r_827_3 ρ904 k57)
abbrev r_827_5(call:CallT)(ρ905:Lo)(k57:Lo→M Fl):M Fl:=
M.bind (M.bind (M.bind (ofO (lk "found" ρ905)) λ t65=>M.bind (M.bind (ofO (lk "goal" ρ905)) λ t67=>M.bind (M.bind (ofO (lk "cap" ρ905)) λ t69=>M.bind (M.bind (ofO (lk "most" ρ905)) λ t71=>M.bind (M.bind (ofO (lk "top" ρ905)) λ t73=>M.pure [t73]) λ vs72=>M.pure (t71::vs72)) λ vs70=>M.pure (t69::vs70)) λ vs68=>M.pure (t67::vs68)) λ vs66=>M.pure (t65::vs66)) λ vs64=>call 822 vs64 []) (r_827_4 ρ905 k57)
abbrev r_827_6(call:CallT)(ρ906:Lo)(k57:Lo→M Fl)(t59:V):M Fl:=
M.bind (asB t59) λ b62=>if b62 then(r_827_5 call ρ906 k57) else k57 ρ906
abbrev r_827_7(call:CallT)(ρ907:Lo)(k57:Lo→M Fl):M Fl:=
M.bind (M.bind (ofO (lk "found" ρ907)) λ t60=>M.bind (cmpV .IsNot t60 V.none) λ r61=>M.pure (V.bool r61)) (r_827_6 call ρ907 k57)
abbrev r_827_8(call:CallT)(v54:V)(ρ55:Lo)(k56:Lo→M Fl):M Fl:=
jp k56 (r_827_7 call (put "turn" v54 ρ55))
def r_827(K:Frag)(call:CallT)(ρ49:Lo):M Fl:=
M.bind (bcall (.type "range") [(V.int 4)]) λ t52=>M.bind (toSrc t52) λ src53=>forLoop 200 src53 0 ρ49 (r_827_8 call) (λ ρ81=>M.pure (.ret (V.bool true)))
abbrev c_827_1(call:CallT)(t0 v7:V):M (Option V):=
M.bind (call 765 [t0] []) λ t9=>M.pure (some t9)
abbrev c_827_2(callH:CallT)(script t0 t1 t12 t14 t25 t34:V):M Fl:=
M.bind (callH 640 [t1] []) λ t51=>M.bind (getI t51 (V.int 0)) λ t50=>M.pure (.next [("script",script),("heap",t0),("items",t1),("goal",t12),("cap",t14),("most",t25),("top",t34),("found",t50)])
abbrev c_827_3(K:Frag)(call:CallT)(callH:CallT)(script t0 t1 t12 t14 t25 t34:V):M Fl:=
tryM (M.bind (makeV K call 354 [(V.int 2),(V.int 5),(V.int 5),(V.int 0),t1] []) λ t48=>call 737 [t48,t12,t25,t14,t34] []) (λ _=>M.pure (.ret (.bool false))) (c_827_2 callH script t0 t1 t12 t14 t25 t34) (r_827 K call)
abbrev c_827_4(K:Frag)(call:CallT)(callH:CallT)(script t0 t1 t12 t14 t25 t34 t44:V):M Fl:=
M.bind (cmpV .NotEq t44 (V.tup [V.none,V.none,(V.tup [(V.tup []),(V.tup [])]),(V.tup [(V.int 0),(V.int 0)])])) λ r45=>if r45 then M.pure (.ret (V.bool false)) else(c_827_3 K call callH script t0 t1 t12 t14 t25 t34)
abbrev c_827_5(K:Frag)(call:CallT)(callH:CallT)(script t0 t1 t12 t14 t25 t36 t38 t40:V):M Fl:=
M.bind (call 751 [t0,(V.int 3)] []) λ t42=>M.bind (makeV K call 250 [t36,t38,t40,t42,(V.int 0)] []) λ t34=>M.bind (call 737 [V.none,t12,t25,t14,t34] []) (c_827_4 K call callH script t0 t1 t12 t14 t25 t34)
abbrev c_827_6(K:Frag)(call:CallT)(callH:CallT)(script t0 t1 t12 t14 t25:V):M Fl:=
M.bind (call 751 [t0,(V.int 14)] []) λ t36=>M.bind (call 751 [t0,(V.int 3)] []) λ t38=>M.bind (call 751 [t0,(V.int 4)] []) (c_827_5 K call callH script t0 t1 t12 t14 t25 t36 t38)
abbrev c_827_7(K:Frag)(call:CallT)(callH:CallT)(script t0 t1 t12 t14 t28:V):M Fl:=
M.bind (alloc (.list [t28,(V.int 3),(V.int 0)])) λ t26=>M.bind (call 751 [t0,(V.int 3)] []) λ t30=>M.bind (getI t26 t30) (c_827_6 K call callH script t0 t1 t12 t14)
abbrev c_827_8(K:Frag)(call:CallT)(callH:CallT)(script t0 t1 t12 t15 t23:V):M Fl:=
M.bind (getI t15 t23) λ t14=>M.bind (binV .Pow (V.int 2) (V.int 30)) λ t29=>M.bind (binV .Sub t29 (V.int 1)) (c_827_7 K call callH script t0 t1 t12 t14)
abbrev c_827_9(K:Frag)(call:CallT)(callH:CallT)(script t0 t1 t12 t18:V):M Fl:=
M.bind (binV .Sub t18 (V.int 1)) λ t17=>M.bind (alloc (.list [t17,(V.int 2),(V.int 0),(V.int (-1))])) λ t15=>M.bind (call 751 [t0,(V.int 4)] []) (c_827_8 K call callH script t0 t1 t12 t15)
abbrev c_827_10(K:Frag)(call:CallT)(callH:CallT)(script t0:V)(vs8:List V):M Fl:=
M.bind (alloc (.list vs8)) λ t1=>M.bind (call 751 [t0,(V.int 50)] []) λ t12=>M.bind (binV .Pow (V.int 2) (V.int 30)) (c_827_9 K call callH script t0 t1 t12)
abbrev c_827_11(K:Frag)(call:CallT)(callH:CallT)(script t0 t4:V):M Fl:=
M.bind (bcall (.type "range") [t4]) λ t2=>M.bind (toSrc t2) λ src6=>M.bind (compLoop 200 src6 0 (c_827_1 call t0)) (c_827_10 K call callH script t0)
abbrev c_827(K:Frag)(call callH:CallT)(script:V):M Fl:=
M.bind (call 744 [script] []) λ t0=>M.bind (call 751 [t0,(V.int 9)] []) λ t5=>M.bind (binV .Add (V.int 3) t5) (c_827_11 K call callH script t0)
def o_604(K:Frag)(call:CallT)(items:V):M Fl:=
M.bind (call 597 [items] []) λ _=>
M.bind (makeV K call 313 [] []) λ t0=>
M.bind (toSrc items) λ src1=>forLoop 200 src1 0 [("items",items),("totals",t0),("width",(V.int 0)),("depth",(V.int 0))] (λ v2 ρ3 k4=>
M.bind (M.bind (M.bind (ofO (lk "width" (put "node" v2 ρ3))) λ t7=>
M.bind (M.bind (M.bind (M.bind (ofO (lk "node" (put "node" v2 ρ3))) λ t11=>
M.pure [t11]) λ vs10=>
call 590 vs10 []) λ t9=>
M.pure [t9]) λ vs8=>
M.pure (t7::vs8)) λ vs6=>
bcall (.builtin "max") vs6) λ t5=>
jp (λ ρ13=>
k4 ρ13) λ k12=>
M.bind (M.bind (M.bind (ofO (lk "node" (put "width" t5 (put "node" v2 ρ3)))) λ t16=>
getA K t16 "kind") λ t15=>
M.bind (cmpV .Eq t15 (V.int 6)) λ r17=>M.pure (V.bool r17)) λ t14=>
M.bind (asB t14) λ b18=>if b18 then
M.bind (M.bind (ofO (lk "totals" (put "width" t5 (put "node" v2 ρ3)))) λ t19=>
M.bind (methF K t19 "widen") λ mk20=>
M.bind (M.bind (ofO (lk "depth" (put "width" t5 (put "node" v2 ρ3)))) λ t22=>
M.pure [t22]) λ vs21=>
methC call mk20 t19 vs21) λ _=>
M.bind (M.bind (ofO (lk "totals" (put "width" t5 (put "node" v2 ρ3)))) λ t23=>
M.bind (methF K t23 "add") λ mk24=>
M.bind (M.bind (M.bind (ofO (lk "node" (put "width" t5 (put "node" v2 ρ3)))) λ t27=>
getA K t27 "glue") λ t26=>
M.pure [t26]) λ vs25=>
methC call mk24 t23 vs25) λ _=>
k12 (put "depth" (V.int 0) (put "width" t5 (put "node" v2 ρ3)))
else
jp (λ ρ29=>
k12 ρ29) λ k28=>
M.bind (M.bind (M.bind (ofO (lk "node" (put "width" t5 (put "node" v2 ρ3)))) λ t32=>
getA K t32 "kind") λ t31=>
M.bind (cmpV .Eq t31 (V.int 5)) λ r33=>M.pure (V.bool r33)) λ t30=>
M.bind (asB t30) λ b34=>if b34 then
M.bind (M.bind (ofO (lk "totals" (put "width" t5 (put "node" v2 ρ3)))) λ t35=>
M.bind (methF K t35 "widen") λ mk36=>
M.bind (M.bind (M.bind (ofO (lk "depth" (put "width" t5 (put "node" v2 ρ3)))) λ t39=>
M.bind (M.bind (ofO (lk "node" (put "width" t5 (put "node" v2 ρ3)))) λ t41=>
getA K t41 "width") λ t40=>
binV .Add t39 t40) λ t38=>
M.pure [t38]) λ vs37=>
methC call mk36 t35 vs37) λ _=>
k28 (put "depth" (V.int 0) (put "width" t5 (put "node" v2 ρ3)))
else
jp (λ ρ43=>
k28 ρ43) λ k42=>
M.bind (M.bind (M.bind (M.bind (ofO (lk "node" (put "width" t5 (put "node" v2 ρ3)))) λ t47=>
getA K t47 "kind") λ t46=>
M.bind (cmpV .Eq t46 (V.int 2)) λ r48=>M.pure (V.bool r48)) λ t45=>
M.bind (asB t45) λ b49=>if b49 then M.pure (V.bool true) else M.bind (M.bind (M.bind (ofO (lk "node" (put "width" t5 (put "node" v2 ρ3)))) λ t52=>
getA K t52 "kind") λ t51=>
M.bind (cmpV .Eq t51 (V.int 3)) λ r53=>M.pure (V.bool r53)) λ t50=>
M.bind (asB t50) λ b54=>if b54 then M.pure (V.bool true) else M.bind (M.bind (M.bind (ofO (lk "node" (put "width" t5 (put "node" v2 ρ3)))) λ t57=>
getA K t57 "kind") λ t56=>
M.bind (cmpV .Eq t56 (V.int 4)) λ r58=>M.pure (V.bool r58)) λ t55=>
M.bind (asB t55) λ b59=>if b59 then M.pure (V.bool true) else M.bind (M.bind (M.bind (ofO (lk "node" (put "width" t5 (put "node" v2 ρ3)))) λ t62=>
getA K t62 "kind") λ t61=>
M.bind (cmpV .Eq t61 (V.int 14)) λ r63=>M.pure (V.bool r63)) λ t60=>
M.bind (asB t60) λ b64=>M.pure (V.bool b64)) λ t44=>
M.bind (asB t44) λ b65=>if b65 then
M.bind (M.bind (ofO (lk "totals" (put "width" t5 (put "node" v2 ρ3)))) λ t66=>
M.bind (methF K t66 "widen") λ mk67=>
M.bind (M.bind (M.bind (ofO (lk "depth" (put "width" t5 (put "node" v2 ρ3)))) λ t70=>
M.bind (M.bind (M.bind (ofO (lk "node" (put "width" t5 (put "node" v2 ρ3)))) λ t73=>
M.pure [t73]) λ vs72=>
call 542 vs72 []) λ t71=>
binV .Add t70 t71) λ t69=>
M.pure [t69]) λ vs68=>
methC call mk67 t66 vs68) λ _=>
M.bind (M.bind (M.bind (ofO (lk "node" (put "width" t5 (put "node" v2 ρ3)))) λ t76=>
M.pure [t76]) λ vs75=>
call 547 vs75 []) λ t74=>
k42 (put "depth" t74 (put "width" t5 (put "node" v2 ρ3)))
else
k42 (put "width" t5 (put "node" v2 ρ3))) λ ρ77=>
M.bind (M.bind (M.bind (ofO (lk "totals" ρ77)) λ t80=>
M.bind (M.bind (ofO (lk "width" ρ77)) λ t82=>
M.bind (M.bind (ofO (lk "depth" ρ77)) λ t84=>
M.pure [t84]) λ vs83=>
M.pure (t82::vs83)) λ vs81=>
M.pure (t80::vs81)) λ vs79=>
if vs79.length≤1000 then M.pure (V.tup vs79) else no) λ t78=>
M.pure (.ret t78)
def o_711(K:Frag)(call:CallT)(items height most_depth:V):M Fl:=
M.bind (call 597 [items] []) λ _=>
M.bind (call 126 [height] []) λ _=>
M.bind (call 126 [most_depth] []) λ _=>
M.bind (makeV K call 686 [] []) λ t0=>
M.bind (M.bind (M.bind (bcall (.builtin "len") [items]) λ t3=>
M.pure [t3,(V.int 1073741823),(V.int 0)]) λ vs2=>
if vs2.length≤1000 then M.pure (V.tup vs2) else no) λ t1=>
un3 t1 λ a4 a5 a6=>
M.bind (M.bind (M.bind (M.bind (bcall (.builtin "len") [items]) λ t10=>
binV .Add t10 (V.int 1)) λ t9=>
M.pure [t9]) λ vs8=>
bcall (.type "range") vs8) λ t7=>
M.bind (toSrc t7) λ src11=>forLoop 200 src11 0 [("items",items),("height",height),("most_depth",most_depth),("column",t0),("best",a4),("least",a5),("size",a6)] (λ v12 ρ13 k14=>
M.bind (M.bind (M.bind (ofO (lk "items" (put "place" v12 ρ13))) λ t17=>
M.bind (M.bind (ofO (lk "place" (put "place" v12 ρ13))) λ t19=>
M.pure [t19]) λ vs18=>
M.pure (t17::vs18)) λ vs16=>
call 697 vs16 []) λ t15=>
jp (λ ρ21=>
M.bind (M.bind (ofO (lk "items" ρ21)) λ t80=>
M.bind (ofO (lk "place" ρ21)) λ t81=>
getI t80 t81) λ t79=>
jp (λ ρ83=>
M.bind (M.bind (ofO (lk "column" ρ83)) λ t111=>
M.bind (methF K t111 "keep") λ mk112=>
M.bind (M.bind (ofO (lk "most_depth" ρ83)) λ t114=>
M.pure [t114]) λ vs113=>
methC call mk112 t111 vs113) λ _=>
k14 ρ83) λ k82=>
M.bind (M.bind (M.bind (ofO (lk "node" (put "node" t79 ρ21))) λ t86=>
getA K t86 "kind") λ t85=>
M.bind (cmpV .In t85 (V.tup [(V.int 2),(V.int 3),(V.int 4),(V.int 14)])) λ r87=>M.pure (V.bool r87)) λ t84=>
M.bind (asB t84) λ b88=>if b88 then
M.bind (M.bind (ofO (lk "column" (put "node" t79 ρ21))) λ t89=>
M.bind (methF K t89 "stand") λ mk90=>
M.bind (M.bind (ofO (lk "node" (put "node" t79 ρ21))) λ t92=>
M.pure [t92]) λ vs91=>
methC call mk90 t89 vs91) λ _=>
k82 (put "node" t79 ρ21)
else
jp (λ ρ94=>
k82 ρ94) λ k93=>
M.bind (M.bind (M.bind (M.bind (ofO (lk "node" (put "node" t79 ρ21))) λ t98=>
getA K t98 "kind") λ t97=>
M.bind (cmpV .Eq t97 (V.int 6)) λ r99=>M.pure (V.bool r99)) λ t96=>
M.bind (asB t96) λ b100=>if b100 then M.pure (V.bool true) else M.bind (M.bind (M.bind (ofO (lk "node" (put "node" t79 ρ21))) λ t103=>
getA K t103 "kind") λ t102=>
M.bind (cmpV .Eq t102 (V.int 5)) λ r104=>M.pure (V.bool r104)) λ t101=>
M.bind (asB t101) λ b105=>M.pure (V.bool b105)) λ t95=>
M.bind (asB t95) λ b106=>if b106 then
M.bind (M.bind (ofO (lk "column" (put "node" t79 ρ21))) λ t107=>
M.bind (methF K t107 "flow") λ mk108=>
M.bind (M.bind (ofO (lk "node" (put "node" t79 ρ21))) λ t110=>
M.pure [t110]) λ vs109=>
methC call mk108 t107 vs109) λ _=>
k93 (put "node" t79 ρ21)
else
k93 (put "node" t79 ρ21)) λ k20=>
M.bind (M.bind (M.bind (ofO (lk "penalty" (put "penalty" t15 (put "place" v12 ρ13)))) λ t24=>
M.bind (cmpV .IsNot t24 V.none) λ r25=>M.pure (V.bool r25)) λ t23=>
M.bind (asB t23) λ b26=>if b26 then M.bind (M.bind (ofO (lk "penalty" (put "penalty" t15 (put "place" v12 ρ13)))) λ t28=>
M.bind (cmpV .Lt t28 (V.int 10000)) λ r29=>M.pure (V.bool r29)) λ t27=>
M.bind (asB t27) λ b30=>M.pure (V.bool b30) else M.pure (V.bool false)) λ t22=>
M.bind (asB t22) λ b31=>if b31 then
M.bind (M.bind (M.bind (ofO (lk "column" (put "penalty" t15 (put "place" v12 ρ13)))) λ t34=>
M.bind (M.bind (ofO (lk "height" (put "penalty" t15 (put "place" v12 ρ13)))) λ t36=>
M.bind (M.bind (ofO (lk "penalty" (put "penalty" t15 (put "place" v12 ρ13)))) λ t38=>
M.pure [t38]) λ vs37=>
M.pure (t36::vs37)) λ vs35=>
M.pure (t34::vs35)) λ vs33=>
call 704 vs33 []) λ t32=>
jp (λ ρ40=>
jp (λ ρ61=>
k20 ρ61) λ k60=>
M.bind (M.bind (M.bind (ofO (lk "cost" ρ40)) λ t64=>
M.bind (cmpV .Eq t64 (V.int 1073741823)) λ r65=>M.pure (V.bool r65)) λ t63=>
M.bind (asB t63) λ b66=>if b66 then M.pure (V.bool true) else M.bind (M.bind (ofO (lk "penalty" ρ40)) λ t68=>
M.bind (cmpV .LtE t68 (V.int (-10000))) λ r69=>M.pure (V.bool r69)) λ t67=>
M.bind (asB t67) λ b70=>M.pure (V.bool b70)) λ t62=>
M.bind (asB t62) λ b71=>if b71 then
M.bind (M.bind (M.bind (ofO (lk "best" ρ40)) λ t74=>
M.bind (M.bind (ofO (lk "least" ρ40)) λ t76=>
M.bind (M.bind (ofO (lk "size" ρ40)) λ t78=>
M.pure [t78]) λ vs77=>
M.pure (t76::vs77)) λ vs75=>
M.pure (t74::vs75)) λ vs73=>
if vs73.length≤1000 then M.pure (V.tup vs73) else no) λ t72=>
M.pure (.ret t72)
else
k60 ρ40) λ k39=>
M.bind (M.bind (ofO (lk "cost" (put "cost" t32 (put "penalty" t15 (put "place" v12 ρ13))))) λ t42=>
M.bind (ofO (lk "least" (put "cost" t32 (put "penalty" t15 (put "place" v12 ρ13))))) λ t43=>
M.bind (cmpV .LtE t42 t43) λ r44=>M.pure (V.bool r44)) λ t41=>
M.bind (asB t41) λ b45=>if b45 then
M.bind (M.bind (M.bind (ofO (lk "place" (put "cost" t32 (put "penalty" t15 (put "place" v12 ρ13))))) λ t48=>
M.bind (M.bind (ofO (lk "cost" (put "cost" t32 (put "penalty" t15 (put "place" v12 ρ13))))) λ t50=>
M.bind (M.bind (M.bind (M.bind (ofO (lk "column" (put "cost" t32 (put "penalty" t15 (put "place" v12 ρ13))))) λ t54=>
getA K t54 "height") λ t53=>
M.bind (M.bind (ofO (lk "column" (put "cost" t32 (put "penalty" t15 (put "place" v12 ρ13))))) λ t56=>
getA K t56 "depth") λ t55=>
binV .Add t53 t55) λ t52=>
M.pure [t52]) λ vs51=>
M.pure (t50::vs51)) λ vs49=>
M.pure (t48::vs49)) λ vs47=>
if vs47.length≤1000 then M.pure (V.tup vs47) else no) λ t46=>
un3 t46 λ a57 a58 a59=>
k39 (put "size" a59 (put "least" a58 (put "best" a57 (put "cost" t32 (put "penalty" t15 (put "place" v12 ρ13))))))
else
k39 (put "cost" t32 (put "penalty" t15 (put "place" v12 ρ13)))
else
k20 (put "penalty" t15 (put "place" v12 ρ13))) λ ρ115=>
M.bind (M.bind (M.bind (ofO (lk "best" ρ115)) λ t118=>
M.bind (M.bind (ofO (lk "least" ρ115)) λ t120=>
M.bind (M.bind (ofO (lk "size" ρ115)) λ t122=>
M.pure [t122]) λ vs121=>
M.pure (t120::vs121)) λ vs119=>
M.pure (t118::vs119)) λ vs117=>
if vs117.length≤1000 then M.pure (V.tup vs117) else no) λ t116=>
M.pure (.ret t116)
end
end VS.Internal
end
section
open PySem PySem.W
set_option backward.match.sparseCases false
set_option maxRecDepth 100000
namespace VS.Internal
noncomputable def intV2(r:Option (Option Value)):Option Int:=r.bind λ w=>w.bind vInt
theorem q_604(K:Frag)(call:CallT)(i:V)(H:Hp)(P:Fl→Hp→Prop)(X:Addr→Hp→Prop):R.f (o_604 K call i H) P X=R.f (c_604 K call i H) P X:=by kernel_rfl
theorem q_711(K:Frag)(call:CallT)(i h m:V)(H:Hp)(P:Fl→Hp→Prop)(X:Addr→Hp→Prop):R.f (o_711 K call i h m H) P X=R.f (c_711 K call i h m H) P X:=by kernel_rfl
@[reducible] def Tu_105(K:Frag):Prop:=∀ n hd value low high H P X,R.f (callF K (n+1) hd 105 [value,low,high] [] H) P X=R.f (c_105 K (callF K n hd) value low high H) (Kf P) X
@[reducible] def Tu_112(K:Frag):Prop:=∀ n hd value H P X,R.f (callF K (n+1) hd 112 [value] [] H) P X=R.f (c_112 K (callF K n hd) value H) (Kf P) X
@[reducible] def Tu_119(K:Frag):Prop:=∀ n hd value H P X,R.f (callF K (n+1) hd 119 [value] [] H) P X=R.f (c_119 K (callF K n hd) value H) (Kf P) X
@[reducible] def Tu_126(K:Frag):Prop:=∀ n hd value H P X,R.f (callF K (n+1) hd 126 [value] [] H) P X=R.f (c_126 K (callF K n hd) value H) (Kf P) X
@[reducible] def Tu_168(K:Frag):Prop:=∀ n hd excess total H P X,R.f (callF K (n+1) hd 168 [excess,total] [] H) P X=R.f (c_168 K (callF K n hd) excess total H) (Kf P) X
@[reducible] def Tu_197_1(K:Frag):Prop:=∀ n hd self H P X,R.f (callF K (n+1) hd 197 [self] [] H) P X=R.f (c_197 K (callF K n hd) self (V.int 0) (V.int 0) (V.int 0) (V.int 0) (V.int 0) H) (Kf P) X
@[reducible] def Tu_197(K:Frag):Prop:=∀ n hd self width stretch stretch_order shrink shrink_order H P X,R.f (callF K (n+1) hd 197 [self,width,stretch,stretch_order,shrink,shrink_order] [] H) P X=R.f (c_197 K (callF K n hd) self width stretch stretch_order shrink shrink_order H) (Kf P) X
@[reducible] def Tu_204(K:Frag):Prop:=∀ n hd self H P X,R.f (callF K (n+1) hd 204 [self] [] H) P X=R.f (c_204 K (callF K n hd) self H) (Kf P) X
@[reducible] def Tu_261(K:Frag):Prop:=∀ n hd sums H P X,R.f (callF K (n+1) hd 261 [sums] [] H) P X=R.f (c_261 K (callF K n hd) sums H) (Kf P) X
@[reducible] def Tu_275(K:Frag):Prop:=∀ n hd self H P X,R.f (callF K (n+1) hd 275 [self] [] H) P X=R.f (c_275 K (callF K n hd) self H) (Kf P) X
@[reducible] def Tu_282(K:Frag):Prop:=∀ n hd self glue H P X,R.f (callF K (n+1) hd 282 [self,glue] [] H) P X=R.f (c_282 K (callF K n hd) self glue H) (Kf P) X
@[reducible] def Tu_289(K:Frag):Prop:=∀ n hd self width H P X,R.f (callF K (n+1) hd 289 [self,width] [] H) P X=R.f (c_289 K (callF K n hd) self width H) (Kf P) X
@[reducible] def Tu_296(K:Frag):Prop:=∀ n hd self H P X,R.f (callF K (n+1) hd 296 [self] [] H) P X=R.f (c_296 K (callF K n hd) self H) (Kf P) X
@[reducible] def Tu_303(K:Frag):Prop:=∀ n hd self H P X,R.f (callF K (n+1) hd 303 [self] [] H) P X=R.f (c_303 K (callF K n hd) self H) (Kf P) X
@[reducible] def Tu_351(K:Frag):Prop:=∀ n hd self kind width height depth items H P X,R.f (callF K (n+1) hd 351 [self,kind,width,height,depth,items] [] H) P X=R.f (c_351 K (callF K n hd) self kind width height depth items H) (Kf P) X
@[reducible] def Tu_372(K:Frag):Prop:=∀ n hd self width height depth H P X,R.f (callF K (n+1) hd 372 [self,width,height,depth] [] H) P X=R.f (c_372 K (callF K n hd) self width height depth H) (Kf P) X
@[reducible] def Tu_393(K:Frag):Prop:=∀ n hd self width sort H P X,R.f (callF K (n+1) hd 393 [self,width,sort] [] H) P X=R.f (c_393 K (callF K n hd) self width sort H) (Kf P) X
@[reducible] def Tu_415_3(K:Frag):Prop:=∀ n hd self glue sort H P X,R.f (callF K (n+1) hd 415 [self,glue,sort] [] H) P X=R.f (c_415 K (callF K n hd) self glue sort V.none H) (Kf P) X
@[reducible] def Tu_436(K:Frag):Prop:=∀ n hd self value H P X,R.f (callF K (n+1) hd 436 [self,value] [] H) P X=R.f (c_436 K (callF K n hd) self value H) (Kf P) X
@[reducible] def Tu_457(K:Frag):Prop:=∀ n hd self tokens H P X,R.f (callF K (n+1) hd 457 [self,tokens] [] H) P X=R.f (c_457 K (callF K n hd) self tokens H) (Kf P) X
@[reducible] def Tu_478(K:Frag):Prop:=∀ n hd self number size depth top cost items H P X,R.f (callF K (n+1) hd 478 [self,number,size,depth,top,cost,items] [] H) P X=R.f (c_478 K (callF K n hd) self number size depth top cost items H) (Kf P) X
@[reducible] def Tu_499(K:Frag):Prop:=∀ n hd self octets H P X,R.f (callF K (n+1) hd 499 [self,octets] [] H) P X=R.f (c_499 K (callF K n hd) self octets H) (Kf P) X
@[reducible] def Tu_513(K:Frag):Prop:=∀ n hd depth H P X,R.f (callF K (n+1) hd 513 [depth] [] H) P X=R.f (c_513 K (callF K n hd) depth H) (Kf P) X
@[reducible] def Tu_520(K:Frag):Prop:=∀ n hd node depth H P X,R.f (callF K (n+1) hd 520 [node,depth] [] H) P X=R.f (c_520 K (callF K n hd) node depth H) (Kf P) X
@[reducible] def Tu_526(K:Frag):Prop:=∀ n hd node depth H P X,R.f (callF K (n+1) hd 526 [node,depth] [] H) P X=R.f (c_526 K (callF K n hd) node depth H) (Kf P) X
@[reducible] def Tu_526_1(K:Frag):Prop:=∀ n hd node H P X,R.f (callF K (n+1) hd 526 [node] [] H) P X=R.f (c_526 K (callF K n hd) node (V.int 0) H) (Kf P) X
@[reducible] def Tu_532(K:Frag):Prop:=∀ n hd items depth H P X,R.f (callF K (n+1) hd 532 [items,depth] [] H) P X=R.f (c_532 K (callF K n hd) items depth H) (Kf P) X
@[reducible] def Tu_532_1(K:Frag):Prop:=∀ n hd items H P X,R.f (callF K (n+1) hd 532 [items] [] H) P X=R.f (c_532 K (callF K n hd) items (V.int 0) H) (Kf P) X
@[reducible] def Tu_537(K:Frag):Prop:=∀ n hd node H P X,R.f (callF K (n+1) hd 537 [node] [] H) P X=R.f (c_537 K (callF K n hd) node H) (Kf P) X
@[reducible] def Tu_542(K:Frag):Prop:=∀ n hd node H P X,R.f (callF K (n+1) hd 542 [node] [] H) P X=R.f (c_542 K (callF K n hd) node H) (Kf P) X
@[reducible] def Tu_547(K:Frag):Prop:=∀ n hd node H P X,R.f (callF K (n+1) hd 547 [node] [] H) P X=R.f (c_547 K (callF K n hd) node H) (Kf P) X
@[reducible] def Tu_568(K:Frag):Prop:=∀ n hd node H P X,R.f (callF K (n+1) hd 568 [node] [] H) P X=R.f (c_568 K (callF K n hd) node H) (Kf P) X
@[reducible] def Tu_575(K:Frag):Prop:=∀ n hd node H P X,R.f (callF K (n+1) hd 575 [node] [] H) P X=R.f (c_575 K (callF K n hd) node H) (Kf P) X
@[reducible] def Tu_590(K:Frag):Prop:=∀ n hd node H P X,R.f (callF K (n+1) hd 590 [node] [] H) P X=R.f (c_590 K (callF K n hd) node H) (Kf P) X
@[reducible] def Tu_597(K:Frag):Prop:=∀ n hd items H P X,R.f (callF K (n+1) hd 597 [items] [] H) P X=R.f (c_597 K (callF K n hd) items H) (Kf P) X
@[reducible] def Tu_604(K:Frag):Prop:=∀ n hd items H P X,R.f (callF K (n+1) hd 604 [items] [] H) P X=R.f (o_604 K (callF K n hd) items H) (Kf P) X
@[reducible] def Tu_611(K:Frag):Prop:=∀ n hd up down H P X,R.f (callF K (n+1) hd 611 [up,down] [] H) P X=R.f (c_611 K (callF K n hd) up down H) (Kf P) X
@[reducible] def Tu_618(K:Frag):Prop:=∀ n hd totals excess H P X,R.f (callF K (n+1) hd 618 [totals,excess] [] H) P X=R.f (c_618 K (callF K n hd) totals excess H) (Kf P) X
@[reducible] def Tu_625(K:Frag):Prop:=∀ n hd own mode amount H P X,R.f (callF K (n+1) hd 625 [own,mode,amount] [] H) P X=R.f (c_625 K (callF K n hd) own mode amount H) (Kf P) X
@[reducible] def Tu_632(K:Frag):Prop:=∀ n hd box totals excess H P X,R.f (callF K (n+1) hd 632 [box,totals,excess] [] H) P X=R.f (c_632 K (callF K n hd) box totals excess H) (Kf P) X
@[reducible] def Tu_640_1_most_depth(K:Frag):Prop:=∀ n hd items most_depth H P X,R.f (callF K (n+1) hd 640 [items] [("most_depth",most_depth)] H) P X=R.f (c_640 K (callF K n hd) items (V.int 1) (V.int 0) most_depth H) (Kf P) X
@[reducible] def Tu_640_1(K:Frag):Prop:=∀ n hd items H P X,R.f (callF K (n+1) hd 640 [items] [] H) P X=R.f (c_640 K (callF K n hd) items (V.int 1) (V.int 0) (V.int 1073741823) H) (Kf P) X
@[reducible] def Tu_640(K:Frag):Prop:=∀ n hd items mode amount most_depth H P X,R.f (callF K (n+1) hd 640 [items,mode,amount,most_depth] [] H) P X=R.f (c_640 K (callF K n hd) items mode amount most_depth H) (Kf P) X
@[reducible] def Tu_655(K:Frag):Prop:=∀ n hd self H P X,R.f (callF K (n+1) hd 655 [self] [] H) P X=R.f (c_655 K (callF K n hd) self H) (Kf P) X
@[reducible] def Tu_662(K:Frag):Prop:=∀ n hd self node H P X,R.f (callF K (n+1) hd 662 [self,node] [] H) P X=R.f (c_662 K (callF K n hd) self node H) (Kf P) X
@[reducible] def Tu_669(K:Frag):Prop:=∀ n hd self most_depth H P X,R.f (callF K (n+1) hd 669 [self,most_depth] [] H) P X=R.f (c_669 K (callF K n hd) self most_depth H) (Kf P) X
@[reducible] def Tu_676(K:Frag):Prop:=∀ n hd self node H P X,R.f (callF K (n+1) hd 676 [self,node] [] H) P X=R.f (c_676 K (callF K n hd) self node H) (Kf P) X
@[reducible] def Tu_683(K:Frag):Prop:=∀ n hd self goal H P X,R.f (callF K (n+1) hd 683 [self,goal] [] H) P X=R.f (c_683 K (callF K n hd) self goal H) (Kf P) X
@[reducible] def Tu_697(K:Frag):Prop:=∀ n hd items place H P X,R.f (callF K (n+1) hd 697 [items,place] [] H) P X=R.f (c_697 K (callF K n hd) items place H) (Kf P) X
@[reducible] def Tu_704(K:Frag):Prop:=∀ n hd column goal penalty H P X,R.f (callF K (n+1) hd 704 [column,goal,penalty] [] H) P X=R.f (c_704 K (callF K n hd) column goal penalty H) (Kf P) X
@[reducible] def Tu_711(K:Frag):Prop:=∀ n hd items height most_depth H P X,R.f (callF K (n+1) hd 711 [items,height,most_depth] [] H) P X=R.f (o_711 K (callF K n hd) items height most_depth H) (Kf P) X
@[reducible] def Tu_718(K:Frag):Prop:=∀ n hd items height most_depth H P X,R.f (callF K (n+1) hd 718 [items,height,most_depth] [] H) P X=R.f (c_718 K (callF K n hd) items height most_depth H) (Kf P) X
@[reducible] def Tu_725(K:Frag):Prop:=∀ n hd items top H P X,R.f (callF K (n+1) hd 725 [items,top] [] H) P X=R.f (c_725 K (callF K n hd) items top H) (Kf P) X
@[reducible] def Tu_730(K:Frag):Prop:=∀ n hd items H P X,R.f (callF K (n+1) hd 730 [items] [] H) P X=R.f (c_730 K (callF K n hd) items H) (Kf P) X
@[reducible] def Tu_737(K:Frag):Prop:=∀ n hd box height most_depth split_depth top H P X,R.f (callF K (n+1) hd 737 [box,height,most_depth,split_depth,top] [] H) P X=R.f (c_737 K (callF K n hd) box height most_depth split_depth top H) (Kf P) X
@[reducible] def Tu_744(K:Frag):Prop:=∀ n hd script H P X,R.f (callF K (n+1) hd 744 [script] [] H) P X=R.f (c_744 K (callF K n hd) script H) (Kf P) X
@[reducible] def Tu_751(K:Frag):Prop:=∀ n hd heap many H P X,R.f (callF K (n+1) hd 751 [heap,many] [] H) P X=R.f (c_751 K (callF K n hd) heap many H) (Kf P) X
@[reducible] def Tu_758(K:Frag):Prop:=∀ n hd heap H P X,R.f (callF K (n+1) hd 758 [heap] [] H) P X=R.f (c_758 K (callF K n hd) heap H) (Kf P) X
@[reducible] def Tu_765(K:Frag):Prop:=∀ n hd heap H P X,R.f (callF K (n+1) hd 765 [heap] [] H) P X=R.f (c_765 K (callF K n hd) heap H) (Kf P) X
@[reducible] def Tu_770(K:Frag):Prop:=∀ n hd node H P X,R.f (callF K (n+1) hd 770 [node] [] H) P X=R.f (c_770 K (callF K n hd) node H) (Kf P) X
@[reducible] def Tu_775(K:Frag):Prop:=∀ n hd items H P X,R.f (callF K (n+1) hd 775 [items] [] H) P X=R.f (c_775 K (callF K n hd) items H) (Kf P) X
@[reducible] def Tu_780(K:Frag):Prop:=∀ n hd items most H P X,R.f (callF K (n+1) hd 780 [items,most] [] H) P X=R.f (c_780 K (callF K n hd) items most H) (Kf P) X
@[reducible] def Tu_785(K:Frag):Prop:=∀ n hd items order is_more H P X,R.f (callF K (n+1) hd 785 [items,order,is_more] [] H) P X=R.f (c_785 K (callF K n hd) items order is_more H) (Kf P) X
@[reducible] def Tu_792(K:Frag):Prop:=∀ n hd excess total H P X,R.f (callF K (n+1) hd 792 [excess,total] [] H) P X=R.f (c_792 K (callF K n hd) excess total H) (Kf P) X
@[reducible] def Tu_797(K:Frag):Prop:=∀ n hd items at_ H P X,R.f (callF K (n+1) hd 797 [items,at_] [] H) P X=R.f (c_797 K (callF K n hd) items at_ H) (Kf P) X
@[reducible] def Tu_802(K:Frag):Prop:=∀ n hd above fee goal most H P X,R.f (callF K (n+1) hd 802 [above,fee,goal,most] [] H) P X=R.f (c_802 K (callF K n hd) above fee goal most H) (Kf P) X
@[reducible] def Tu_807(K:Frag):Prop:=∀ n hd items goal most H P X,R.f (callF K (n+1) hd 807 [items,goal,most] [] H) P X=R.f (c_807 K (callF K n hd) items goal most H) (Kf P) X
@[reducible] def Tu_812(K:Frag):Prop:=∀ n hd items gap H P X,R.f (callF K (n+1) hd 812 [items,gap] [] H) P X=R.f (c_812 K (callF K n hd) items gap H) (Kf P) X
@[reducible] def Tu_817(K:Frag):Prop:=∀ n hd below top H P X,R.f (callF K (n+1) hd 817 [below,top] [] H) P X=R.f (c_817 K (callF K n hd) below top H) (Kf P) X
@[reducible] def Tu_822(K:Frag):Prop:=∀ n found goal cap most top H P X,R.f (callF K (n+1) false 822 [found,goal,cap,most,top] [] H) P X=R.f (c_822 K (callF K n false) (callF K n true) found goal cap most top H) (Kf P) X
@[reducible] def Tu_827(K:Frag):Prop:=∀ n script H P X,R.f (callF K (n+1) false 827 [script] [] H) P X=R.f (c_827 K (callF K n false) (callF K n true) script H) (Kf P) X
@[reducible] def Tm_250(K:Frag):Prop:=∀ call args kws,makeV K call 250 args kws=mkM call 250 197 args kws
@[reducible] def Tm_354(K:Frag):Prop:=∀ call args kws,makeV K call 354 args kws=mkM call 354 351 args kws
@[reducible] def Tm_375(K:Frag):Prop:=∀ call args kws,makeV K call 375 args kws=mkM call 375 372 args kws
@[reducible] def Tm_418(K:Frag):Prop:=∀ call args kws,makeV K call 418 args kws=mkM call 418 415 args kws
@[reducible] def Tm_396(K:Frag):Prop:=∀ call args kws,makeV K call 396 args kws=mkM call 396 393 args kws
@[reducible] def Tm_439(K:Frag):Prop:=∀ call args kws,makeV K call 439 args kws=mkM call 439 436 args kws
@[reducible] def Tm_460(K:Frag):Prop:=∀ call args kws,makeV K call 460 args kws=mkM call 460 457 args kws
@[reducible] def Tm_481(K:Frag):Prop:=∀ call args kws,makeV K call 481 args kws=mkM call 481 478 args kws
@[reducible] def Tm_502(K:Frag):Prop:=∀ call args kws,makeV K call 502 args kws=mkM call 502 499 args kws
@[reducible] def Tm_313(K:Frag):Prop:=∀ call args kws,makeV K call 313 args kws=mkM call 313 275 args kws
@[reducible] def Tm_686(K:Frag):Prop:=∀ call args kws,makeV K call 686 args kws=mkM call 686 655 args kws
@[reducible] def Trs_822(K:Frag):Prop:=∀ call callH found goal cap most top items as_was due head rest marks report H P X,R.f (r_822 K call callH [("found",found),("goal",goal),("cap",cap),("most",most),("top",top),("items",items),("as_was",as_was),("due",due),("head",head),("rest",rest),("marks",marks),("report",report)] H) P X=R.f (s_822 K call found goal cap most top items as_was due head rest marks report H) P X
structure KF(K:Frag):Prop where
 a_686_height:findIn K (.ref 686) "height" = some none
 a_686_depth:findIn K (.ref 686) "depth" = some none
 a_686_stretch:findIn K (.ref 686) "stretch" = some none
 a_686_shrink:findIn K (.ref 686) "shrink" = some none
 a_250_width:findIn K (.ref 250) "width" = some none
 a_250_stretch:findIn K (.ref 250) "stretch" = some none
 a_250_stretch_order:findIn K (.ref 250) "stretch_order" = some none
 a_250_shrink:findIn K (.ref 250) "shrink" = some none
 a_250_shrink_order:findIn K (.ref 250) "shrink_order" = some none
 a_313_natural:findIn K (.ref 313) "natural" = some none
 a_313_stretch:findIn K (.ref 313) "stretch" = some none
 a_313_shrink:findIn K (.ref 313) "shrink" = some none
 a_354_kind:findIn K (.ref 354) "kind" = some none
 a_354_width:findIn K (.ref 354) "width" = some none
 a_354_height:findIn K (.ref 354) "height" = some none
 a_354_depth:findIn K (.ref 354) "depth" = some none
 a_354_items:findIn K (.ref 354) "items" = some none
 a_354_shift:findIn K (.ref 354) "shift" = some none
 a_354_sign:findIn K (.ref 354) "sign" = some none
 a_354_order:findIn K (.ref 354) "order" = some none
 a_354_ratio:findIn K (.ref 354) "ratio" = some none
 a_375_width:findIn K (.ref 375) "width" = some none
 a_375_height:findIn K (.ref 375) "height" = some none
 a_375_depth:findIn K (.ref 375) "depth" = some none
 a_396_width:findIn K (.ref 396) "width" = some none
 a_396_sort:findIn K (.ref 396) "sort" = some none
 a_418_glue:findIn K (.ref 418) "glue" = some none
 a_418_sort:findIn K (.ref 418) "sort" = some none
 a_418_leader:findIn K (.ref 418) "leader" = some none
 a_439_value:findIn K (.ref 439) "value" = some none
 a_460_tokens:findIn K (.ref 460) "tokens" = some none
 a_481_number:findIn K (.ref 481) "number" = some none
 a_481_size:findIn K (.ref 481) "size" = some none
 a_481_depth:findIn K (.ref 481) "depth" = some none
 a_481_top:findIn K (.ref 481) "top" = some none
 a_481_cost:findIn K (.ref 481) "cost" = some none
 a_481_items:findIn K (.ref 481) "items" = some none
 a_502_octets:findIn K (.ref 502) "octets" = some none
 k_375:intV2 (findIn K (.ref 375) "kind")=some 4
 k_396:intV2 (findIn K (.ref 396) "kind")=some 5
 k_418:intV2 (findIn K (.ref 418) "kind")=some 6
 k_439:intV2 (findIn K (.ref 439) "kind")=some 7
 k_460:intV2 (findIn K (.ref 460) "kind")=some 9
 k_481:intV2 (findIn K (.ref 481) "kind")=some 10
 k_502:intV2 (findIn K (.ref 502) "kind")=some 13
 t_250_parts:findIn K (.ref 250) "parts" = some (some (.ref 204))∧(isFn K (.ref 204)&&keepIn K (.ref 204))=true
 t_313_add:findIn K (.ref 313) "add" = some (some (.ref 282))∧(isFn K (.ref 282)&&keepIn K (.ref 282))=true
 t_313_widen:findIn K (.ref 313) "widen" = some (some (.ref 289))∧(isFn K (.ref 289)&&keepIn K (.ref 289))=true
 t_313_stretch_top:findIn K (.ref 313) "stretch_top" = some (some (.ref 296))∧(isFn K (.ref 296)&&keepIn K (.ref 296))=true
 t_313_shrink_top:findIn K (.ref 313) "shrink_top" = some (some (.ref 303))∧(isFn K (.ref 303)&&keepIn K (.ref 303))=true
 t_686_stand:findIn K (.ref 686) "stand" = some (some (.ref 662))∧(isFn K (.ref 662)&&keepIn K (.ref 662))=true
 t_686_keep:findIn K (.ref 686) "keep" = some (some (.ref 669))∧(isFn K (.ref 669)&&keepIn K (.ref 669))=true
 t_686_flow:findIn K (.ref 686) "flow" = some (some (.ref 676))∧(isFn K (.ref 676)&&keepIn K (.ref 676))=true
 t_686_cost:findIn K (.ref 686) "cost" = some (some (.ref 683))∧(isFn K (.ref 683)&&keepIn K (.ref 683))=true
 u_105:Tu_105 K
 u_112:Tu_112 K
 u_119:Tu_119 K
 u_126:Tu_126 K
 u_168:Tu_168 K
 u_197_1:Tu_197_1 K
 u_197:Tu_197 K
 u_204:Tu_204 K
 u_261:Tu_261 K
 u_275:Tu_275 K
 u_282:Tu_282 K
 u_289:Tu_289 K
 u_296:Tu_296 K
 u_303:Tu_303 K
 u_351:Tu_351 K
 u_372:Tu_372 K
 u_393:Tu_393 K
 u_415_3:Tu_415_3 K
 u_436:Tu_436 K
 u_457:Tu_457 K
 u_478:Tu_478 K
 u_499:Tu_499 K
 u_513:Tu_513 K
 u_520:Tu_520 K
 u_526:Tu_526 K
 u_526_1:Tu_526_1 K
 u_532:Tu_532 K
 u_532_1:Tu_532_1 K
 u_537:Tu_537 K
 u_542:Tu_542 K
 u_547:Tu_547 K
 u_568:Tu_568 K
 u_575:Tu_575 K
 u_590:Tu_590 K
 u_597:Tu_597 K
 u_604:Tu_604 K
 u_611:Tu_611 K
 u_618:Tu_618 K
 u_625:Tu_625 K
 u_632:Tu_632 K
 u_640_1_most_depth:Tu_640_1_most_depth K
 u_640_1:Tu_640_1 K
 u_640:Tu_640 K
 u_655:Tu_655 K
 u_662:Tu_662 K
 u_669:Tu_669 K
 u_676:Tu_676 K
 u_683:Tu_683 K
 u_697:Tu_697 K
 u_704:Tu_704 K
 u_711:Tu_711 K
 u_718:Tu_718 K
 u_725:Tu_725 K
 u_730:Tu_730 K
 u_737:Tu_737 K
 u_744:Tu_744 K
 u_751:Tu_751 K
 u_758:Tu_758 K
 u_765:Tu_765 K
 u_770:Tu_770 K
 u_775:Tu_775 K
 u_780:Tu_780 K
 u_785:Tu_785 K
 u_792:Tu_792 K
 u_797:Tu_797 K
 u_802:Tu_802 K
 u_807:Tu_807 K
 u_812:Tu_812 K
 u_817:Tu_817 K
 u_822:Tu_822 K
 u_827:Tu_827 K
 m_250:Tm_250 K
 m_354:Tm_354 K
 m_375:Tm_375 K
 m_418:Tm_418 K
 m_396:Tm_396 K
 m_439:Tm_439 K
 m_460:Tm_460 K
 m_481:Tm_481 K
 m_502:Tm_502 K
 m_313:Tm_313 K
 m_686:Tm_686 K
 rs_822:Trs_822 K
end VS.Internal
end
section
open PySem PySem.W PySem.SeqAt
set_option maxRecDepth 100000
set_option backward.match.sparseCases false
namespace VW.Internal
open VS.Internal
theorem keep{α:Type}{p:α→Prop}(h:∀ x,p x):∀ x,p x:=h
theorem wid{a b c d x:Int}(h:c≤x∧x≤d)(p:a≤c)(q:d≤b):a≤x∧x≤b:=⟨Int.le_trans p h.1,Int.le_trans h.2 q⟩
theorem wlt{a b c d x:Int}(h:c≤x∧x≤d)(p:a<c)(q:d<b):a<x∧x<b:=⟨Int.lt_of_lt_of_le p h.1,Int.lt_of_le_of_lt h.2 q⟩
theorem isub{a b c d x y:Int}(h:a≤x∧x≤b)(k:c≤y∧y≤d):a-d≤x-y∧x-y≤b-c:=⟨Int.sub_le_sub h.1 k.2,Int.sub_le_sub h.2 k.1⟩
theorem iadd{a b c d x y:Int}(h:a≤x∧x≤b)(k:c≤y∧y≤d):a+c≤x+y∧x+y≤b+d:=⟨Int.add_le_add h.1 k.1,Int.add_le_add h.2 k.2⟩
theorem imin{a b x m:Int}(h:a≤x∧x≤b)(p:a≤m):a≤min x m∧min x m≤b:=⟨Int.le_min.mpr ⟨h.1,p⟩,Int.le_trans (Int.min_le_left _ _) h.2⟩
theorem imax{a b x m:Int}(h:a≤x∧x≤b)(p:m≤b):a≤max m x∧max m x≤b:=⟨Int.le_trans h.1 (Int.le_max_right _ _),Int.max_le.mpr ⟨p,h.2⟩⟩
theorem iteL{p:Prop}[Decidable p]{a b x y:Int}(h:a≤x∧x≤b)(k:a≤y∧y≤b):a≤(if p then x else y)∧(if p then x else y)≤b:=by
 by_cases q:p
 ·rw [if_pos q];exact h
 ·rw [if_neg q];exact k
theorem nsub{x y N:Int}(h:-N≤x-y):y-x≤N:=Int.le_trans (Int.le_of_eq (Int.neg_sub x y).symm) (Int.le_trans (Int.neg_le_neg h) (Int.le_of_eq (Int.neg_neg N)))
theorem s63{x:Int}{n:Nat}(h:0≤x∧x≤100*(n:Int))(hl:n≤100):0≤x∧x<9223372036854775808:=⟨h.1,Int.lt_of_le_of_lt (Int.le_trans h.2 (Int.mul_le_mul_of_nonneg_left (Int.ofNat_le.mpr hl) (by decide))) (by decide)⟩
theorem srcN{n:Nat}(h:n≤1000):-1000≤(n:Int)∧(n:Int)≤1000:=⟨Int.le_trans (by decide) (Int.natCast_nonneg n),Int.ofNat_le.mpr h⟩
theorem minmin{x c:Int}:min (min x c) c=min x c:=(Int.min_assoc _ _ _).trans (congrArg _ (Int.min_self _))
theorem koL{x:Int}(h:x=0∨x=1):0≤x∧x≤3:=h.elim (λ z=>by rw [z];decide) λ z=>by rw [z];decide
theorem absL{i:Int}{n:Nat}(h:-(n:Int)<i∧i<n):i.natAbs<n:=Int.ofNat_lt.mp ((Int.natAbs_eq i).elim (λ q=>Int.lt_of_le_of_lt (Int.le_of_eq q.symm) h.2) λ q=>Int.neg_lt_neg_iff.mp (Int.lt_of_lt_of_le h.1 (Int.le_of_eq q)))
theorem abs_le{e N:Int}(h:-N≤e∧e≤N):0≤(e.natAbs:Int)∧(e.natAbs:Int)≤N:=⟨Int.natCast_nonneg _,(Int.natAbs_eq e).elim (λ q=>Int.le_trans (Int.le_of_eq q.symm) h.2) λ q=>Int.neg_le_neg_iff.mp (Int.le_trans h.1 (Int.le_of_eq q))⟩
noncomputable def Kx{α β:Type}(f:α→M β)(P:β→Hp→Prop)(X:Addr→Hp→Prop)(a:α)(h:Hp):Prop:=R.f (f a h) P X
theorem fv_ret{v:V}:fv (.ret v)=v:=rfl
theorem fv_next{ρ:Lo}:fv (.next ρ) = .none:=rfl
section
variable{α β:Type}{H:Hp}{X:Addr→Hp→Prop}
theorem n_bnd{m:M α}{f:α→M β}{P:β→Hp→Prop}:R.f (M.bind m f H) P X=R.f (m H) (λ a h=>R.f (f a h) P X) X:=rfl
theorem n_bind{m:M α}{f:α→M β}{P:β→Hp→Prop}:R.f (M.bind m f H) P X=R.f (m H) (Kx f P X) X:=rfl
theorem n_K{a:α}{f:α→M β}{P:β→Hp→Prop}:Kx f P X a H=R.f (f a H) P X:=rfl
theorem n_pure{a:α}{P:α→Hp→Prop}:R.f (M.pure a H) P X=P a H:=rfl
theorem n_ok{a:α}{P:α→Hp→Prop}{H':Hp}:R.f (R.ok a H') P X=P a H':=rfl
theorem n_raise{c:Addr}{P:α→Hp→Prop}:R.f ((raise c:M α) H) P X=X c H:=rfl
theorem n_Kr{P:V→Hp→Prop}{v:V}:Kf P (.ret v) H=P v H:=rfl
theorem n_Kn{P:V→Hp→Prop}{ρ:Lo}:Kf P (.next ρ) H=P .none H:=rfl
theorem n_if{b:Bool}{m n:M α}{P:α→Hp→Prop}:R.f ((if b=true then m else n) H) P X=((b=true→R.f (m H) P X)∧(b=false→R.f (n H) P X)):=by
 cases b<;>simp
theorem n_jpE{k:Lo→M Fl}{f:(Lo→M Fl)→M Fl}{P:Fl→Hp→Prop}:R.f (jp k f H) P X=R.f (f k H) P X:=rfl
noncomputable def Cn(m n:M α)(H:Hp)(P:α→Hp→Prop)(X:Addr→Hp→Prop)(b:Bool):Prop:=R.f ((if b=true then m else n) H) P X
theorem n_ifb{b:Bool}{m n:M α}{P:α→Hp→Prop}:R.f ((if b=true then m else n) H) P X=Cn m n H P X b:=rfl
theorem n_iU{b:Bool}{m n:M α}{P:α→Hp→Prop}:Cn m n H P X b=((b=true→R.f (m H) P X)∧(b=false→R.f (n H) P X)):=n_if
theorem n_iD{p:Prop}{_:Decidable p}{m n:M α}{P:α→Hp→Prop}:Cn m n H P X (decide p)=((p→R.f (m H) P X)∧(¬ p→R.f (n H) P X)):=by
 rw [n_iU,decide_eq_true_eq,decide_eq_false_iff_not]
theorem n_iN{p:Prop}{_:Decidable p}{m n:M α}{P:α→Hp→Prop}:Cn m n H P X (!decide p)=((¬ p→R.f (m H) P X)∧(p→R.f (n H) P X)):=by
 rw [n_iU];by_cases h:p<;>simp [h]
theorem n_iT{m n:M α}{P:α→Hp→Prop}:Cn m n H P X true=R.f (m H) P X:=rfl
theorem n_iF{m n:M α}{P:α→Hp→Prop}:Cn m n H P X false=R.f (n H) P X:=rfl
theorem n_ofO{a:α}{P:α→Hp→Prop}:R.f (ofO (some a) H) P X=P a H:=rfl
theorem n_lk{x:PySem.Str}{ρ:Lo}{v:V}{P:V→Hp→Prop}(h:lk x ρ=some v):R.f (ofO (lk x ρ) H) P X=P v H:=by rw [h];rfl
theorem n_asB{b:Bool}{P:Bool→Hp→Prop}:R.f (asB (.bool b) H) P X=P b H:=rfl
theorem n_asI{b:Int}{P:Int→Hp→Prop}:R.f (asI (.int b) H) P X=P b H:=rfl
theorem n_alloc{o:O}{P:V→Hp→Prop}:R.f (alloc o H) P X=P (.ref H.length) (H++[o]):=rfl
theorem n_tup{k:List V}{m n:M α}{P:α→Hp→Prop}(h:k.length≤1000):R.f ((if k.length≤1000 then m else n) H) P X=R.f (m H) P X:=by rw [if_pos h]
theorem n_ite{c:Prop}[Decidable c]{m n:M α}{P:α→Hp→Prop}(h:c):R.f ((if c then m else n) H) P X=R.f (m H) P X:=by rw [if_pos h]
theorem n_getO{i:Nat}{o:O}(h:H[i]? = some o){P:O→Hp→Prop}:R.f (getO i H) P X=P o H:=by unfold getO;rw [h];rfl
theorem n_noexc{m:M α}{P:α→Hp→Prop}(h:R.f (m H) P (λ _ _=>False)):R.f (noexc m H) P X:=h
theorem n_un1{a:V}{f:V→M α}{P:α→Hp→Prop}:R.f (un1 (.tup [a]) f H) P X=R.f (f a H) P X:=rfl
theorem n_un2{a b:V}{f:V→V→M α}{P:α→Hp→Prop}:R.f (un2 (.tup [a,b]) f H) P X=R.f (f a b H) P X:=rfl
theorem n_un3{a b c:V}{f:V→V→V→M α}{P:α→Hp→Prop}:R.f (un3 (.tup [a,b,c]) f H) P X=R.f (f a b c H) P X:=rfl
theorem n_un4{a b c d:V}{f:V→V→V→V→M α}{P:α→Hp→Prop}:R.f (un4 (.tup [a,b,c,d]) f H) P X=R.f (f a b c d H) P X:=rfl
theorem n_eqI{i j:Int}{P:Bool→Hp→Prop}:R.f (cmpV .Eq (.int i) (.int j) H) P X=P (decide (i=j)) H:=rfl
theorem n_ne{a b:V}{P:Bool→Hp→Prop}:R.f (cmpV .NotEq a b H) P X=R.f (cmpV .Eq a b H) (λ r h=>P (!r) h) X:=rfl
theorem n_neI{i j:Int}{P:Bool→Hp→Prop}:R.f (cmpV .NotEq (.int i) (.int j) H) P X=P (!decide (i=j)) H:=rfl
theorem n_lt{i j:Int}{P:Bool→Hp→Prop}:R.f (cmpV .Lt (.int i) (.int j) H) P X=P (decide (i<j)) H:=rfl
theorem n_le{i j:Int}{P:Bool→Hp→Prop}:R.f (cmpV .LtE (.int i) (.int j) H) P X=P (decide (i≤j)) H:=rfl
theorem n_gt{i j:Int}{P:Bool→Hp→Prop}:R.f (cmpV .Gt (.int i) (.int j) H) P X=P (decide (j<i)) H:=rfl
theorem n_ge{i j:Int}{P:Bool→Hp→Prop}:R.f (cmpV .GtE (.int i) (.int j) H) P X=P (decide (j≤i)) H:=rfl
noncomputable def isN(v:V):Bool:=Nat.beq v.ctorIdx 0
theorem n_is{v:V}{P:Bool→Hp→Prop}(h:notSta v=true):R.f (cmpV .Is v .none H) P X=P (isN v) H:=by
 cases v<;>first | rfl | cases h
theorem n_isnot{v:V}{P:Bool→Hp→Prop}(h:notSta v=true):R.f (cmpV .IsNot v .none H) P X=P (!isN v) H:=by
 cases v<;>first | rfl | cases h
theorem isN_n:isN V.none=true:=rfl
theorem isN_i{i:Int}:isN (V.int i)=false:=rfl
theorem isN_r{i:Nat}:isN (V.ref i)=false:=rfl
theorem isN_t{i:List V}:isN (V.tup i)=false:=rfl
theorem n_in{i:Int}{vs:List V}{ns:List Int}{P:Bool→Hp→Prop}(h:intsV vs=some ns):R.f (cmpV .In (.int i) (.tup vs) H) P X=P (ns.any (· == i)) H:=by
 have e:cmpV .In (.int i) (.tup vs)=ofO ((intsV vs).map λ ns=>ns.any (· == i)):=rfl
 rw [e,h];rfl
theorem n_notin{i:Int}{vs:List V}{ns:List Int}{P:Bool→Hp→Prop}(h:intsV vs=some ns):R.f (cmpV .NotIn (.int i) (.tup vs) H) P X=P (!ns.any (· == i)) H:=by
 have e:cmpV .NotIn (.int i) (.tup vs)=M.bind (ofO ((intsV vs).map λ ns=>ns.any (· == i))) λ r=>M.pure (!r):=rfl
 rw [e,h];rfl
theorem n_add{i j:Int}{P:V→Hp→Prop}:R.f (binV .Add (.int i) (.int j) H) P X=P (.int (i+j)) H:=rfl
theorem n_sub{i j:Int}{P:V→Hp→Prop}:R.f (binV .Sub (.int i) (.int j) H) P X=P (.int (i-j)) H:=rfl
theorem n_mul{i j:Int}{P:V→Hp→Prop}(h:mulOk i j=true):R.f (binV .Mult (.int i) (.int j) H) P X=P (.int (i*j)) H:=by
 have e:binV .Mult (.int i) (.int j)=if mulOk i j then(M.pure (.int (i*j)):M V) else no:=rfl
 rw [e,n_ite h];rfl
theorem n_div{i j:Int}{P:V→Hp→Prop}(h:divOk i j=true):R.f (binV .FloorDiv (.int i) (.int j) H) P X=P (.int (i.fdiv j)) H:=by
 have e:binV .FloorDiv (.int i) (.int j)=if divOk i j then(M.pure (.int (i.fdiv j)):M V) else no:=rfl
 rw [e,n_ite h];rfl
theorem n_mod{i j:Int}{P:V→Hp→Prop}(h:j≠0):R.f (binV .Mod (.int i) (.int j) H) P X=P (.int (i.fmod j)) H:=by
 have e:binV .Mod (.int i) (.int j)=if j=0 then no else(M.pure (.int (i.fmod j)):M V):=rfl
 rw [e,if_neg h];rfl
theorem n_pow{i j:Int}{P:V→Hp→Prop}(h:powOk i j=true):R.f (binV .Pow (.int i) (.int j) H) P X=P (.int (i^j.toNat)) H:=by
 have e:binV .Pow (.int i) (.int j)=if powOk i j then(M.pure (.int (i^j.toNat)):M V) else no:=rfl
 rw [e,n_ite h];rfl
theorem n_addT{xs ys:List V}{P:V→Hp→Prop}(h:xs.length+ys.length≤1000):R.f (binV .Add (.tup xs) (.tup ys) H) P X=P (.tup (xs++ys)) H:=by
 have e:binV .Add (.tup xs) (.tup ys)=if xs.length+ys.length≤1000 then(M.pure (.tup (xs++ys)):M V) else no:=rfl
 rw [e,n_ite h];rfl
theorem n_neg{i:Int}{P:V→Hp→Prop}:R.f (unV .USub (.int i) H) P X=P (.int (-i)) H:=rfl
theorem n_not{b:Bool}{P:V→Hp→Prop}:R.f (unV .Not (.bool b) H) P X=P (.bool (!b)) H:=rfl
theorem n_abs{i:Int}{P:V→Hp→Prop}:R.f (bcall (.builtin "abs") [.int i] H) P X=P (.int i.natAbs) H:=rfl
theorem n_max{i j:Int}{P:V→Hp→Prop}:R.f (bcall (.builtin "max") [.int i,.int j] H) P X=P (.int (max i j)) H:=rfl
theorem n_min{i j:Int}{P:V→Hp→Prop}:R.f (bcall (.builtin "min") [.int i,.int j] H) P X=P (.int (min i j)) H:=rfl
theorem n_int{b:Bool}{P:V→Hp→Prop}:R.f (bcall (.type "int") [.bool b] H) P X=P (.int (if b then 1 else 0)) H:=rfl
theorem n_range{i:Int}{P:V→Hp→Prop}:R.f (bcall (.type "range") [.int i] H) P X=P (.rng i) H:=rfl
theorem n_tupT{vs:List V}{P:V→Hp→Prop}:R.f (bcall (.type "tuple") [.tup vs] H) P X=P (.tup vs) H:=rfl
theorem n_isi{i:Int}{P:V→Hp→Prop}:R.f (bcall (.builtin "isinstance") [.int i,.sta (.type "int")] H) P X=P (.bool true) H:=rfl
theorem n_isb{i:Int}{P:V→Hp→Prop}:R.f (bcall (.builtin "isinstance") [.int i,.sta (.type "bool")] H) P X=P (.bool false) H:=rfl
theorem n_item{xs:List V}{k:Int}{v:V}{P:V→Hp→Prop}(h:xs.length≤1000)(hk:∃ j,idx k xs.length=some j∧xs[j]? = some v):R.f (itemI k xs H) P X=P v H:=by
 unfold itemI
 rw [n_ite h]
 exact hk.elim λ j hk=>by rw [hk.1];show R.f (ofO xs[j]? H) P X=_;rw [hk.2];rfl
theorem n_getT{xs:List V}{k:Int}{v:V}{P:V→Hp→Prop}(h:xs.length≤1000)(hk:∃ j,idx k xs.length=some j∧xs[j]? = some v):R.f (getI (.tup xs) (.int k) H) P X=P v H:=n_item h hk
theorem n_sliceT{K:Frag}{xs:List V}{lo hi:V}{l u:Option Int}{P:V→Hp→Prop}(h:xs.length≤1000)(hl:partI lo=some l)(hu:partI hi=some u):R.f (sliceV K (.tup xs) lo hi H) P X=P (.tup (cutL l u xs)) H:=by
 unfold sliceV
 rw [hl,hu]
 exact n_ite h
noncomputable def pd(v:V):Nat→Bool:=V.rec (motive_1:=λ _=>Nat→Bool) (motive_2:=λ _=>Nat→Bool) (λ _=>true) (λ _ _=>true) (λ _ _=>true) (λ _ _=>false) (λ _ _=>false) (λ _ t n=>Nat.rec false (λ m _=>t m) n) (λ _ _=>false) (λ _ _=>false) (λ _ _=>false) (λ _=>true) (λ _ _ p t n=>p n&&t n) v
noncomputable def pds(vs:List V):Nat→Bool:=V.rec_1 (motive_1:=λ _=>Nat→Bool) (motive_2:=λ _=>Nat→Bool) (λ _=>true) (λ _ _=>true) (λ _ _=>true) (λ _ _=>false) (λ _ _=>false) (λ _ t n=>Nat.rec false (λ m _=>t m) n) (λ _ _=>false) (λ _ _=>false) (λ _ _=>false) (λ _=>true) (λ _ _ p t n=>p n&&t n) vs
inductive PdO(v:V)(n:Nat):Prop
 | mk (d:PyData) (e:toPy v=some d) (h:d.canLay0=true) (k:d.depth≤n)
inductive PdS(vs:List V)(n:Nat):Prop
 | mk (d:List PyData) (e:toPys vs=some d) (h:PyData.canLayAll0 d=true) (k:PyData.depthAll d≤n)
theorem pd_py(v:V):∀ n,pd v n=true→PdO v n:=
 V.rec (motive_1:=λ v=>∀ n,pd v n=true→PdO v n) (motive_2:=λ v=>∀ n,pds v n=true→PdS v n) (λ _ _=>⟨.none,rfl,rfl,Nat.zero_le _⟩) (λ b _ _=>⟨.bool b,rfl,rfl,Nat.zero_le _⟩) (λ i _ _=>⟨.int i,rfl,rfl,Nat.zero_le _⟩)
  (λ _ _ h=>by cases h) (λ _ _ h=>by cases h)
  (λ vs ih n h=>by
   cases n with
   | zero=>cases h
   | succ n=>cases ih n h with | mk d e h k=>exact⟨.tuple d,congrArg (Option.map _) e,h,Nat.succ_le_succ k⟩)
  (λ _ _ h=>by cases h) (λ _ _ h=>by cases h) (λ _ _ h=>by cases h)
  (λ _ _=>⟨[],rfl,rfl,Nat.zero_le _⟩)
  (λ v r p t n h=>by
   have q:=(Bool.and_eq_true _ _).mp h
   cases p n q.1 with | mk d e h k=>
   cases t n q.2 with | mk d' e' h' k'=>
   exact⟨d::d',by show((toPy v).bind λ d=>(toPys r).map (d :: ·))=_;rw [e,e'];rfl,(Bool.and_eq_true _ _).mpr ⟨h,h'⟩,Nat.max_le.mpr ⟨k,k'⟩⟩) v
theorem pq_refl{v:V}(h:pd v 64=true):peq v v=some true:=by
 cases pd_py v 64 h with | mk d h1 h2 h3=>
 rw [peq_eq]
 unfold peq0
 rw [h1]
 have hs:shaped d=true:=by simp [shaped,h2,h3]
 show(if shaped d&&shaped d then some (PyData.eqv d d) else none)=_
 rw [hs,eqv_refl d h2];rfl
theorem n_eqR{v:V}(h:pd v 64=true){P:Bool→Hp→Prop}:R.f (cmpV .Eq v v H) P X=P true H:=by
 have e:cmpV .Eq v v=(ofO (peq v v):M Bool):=by
  cases v with
  | ref i=>cases h
  | _=>rfl
 rw [e,pq_refl h];rfl
theorem n_eqU{xs:List V}(h:pd (.tup xs) 64=true){P:Bool→Hp→Prop}:R.f (cmpV .Eq (.tup xs) (.tup []) H) P X=P xs.isEmpty H:=by
 cases xs with
 | nil=>exact n_eqR h
 | cons a r=>
  cases pd_py _ 64 h with | mk d h1 h2 h3=>
  show R.f (ofO (peq (.tup (a::r)) (.tup [])) H) P X=_
  rw [peq_eq]
  unfold peq0
  rw [h1]
  have hs:shaped d=true:=by simp [shaped,h2,h3]
  show R.f (ofO (if shaped d&&shaped (.tuple []) then some (PyData.eqv d (.tuple [])) else none) H) P X=_
  rw [hs]
  refine map_is (o:=toPys (a::r)) (f:=PyData.tuple) h1 λ ds q e=>?_
  exact bind_is q λ x _ q=>map_is q λ xs _ q=>by subst e;subst q;rfl
theorem pq_hp(ks:List Int):toPys (ks.map V.int)=some (ks.map PyData.int):=by
 induction ks with
 | nil=>rfl
 | cons k r ih=>show(toPys (r.map V.int)).map (PyData.int k :: ·)=_;rw [ih];rfl
theorem pq_hc(ks:List Int):PyData.canLayAll0 (ks.map PyData.int)=true∧PyData.depthAll (ks.map PyData.int)=0:=by
 induction ks with
 | nil=>exact⟨rfl,rfl⟩
 | cons k r ih=>exact⟨ih.1,(Nat.zero_max _).trans ih.2⟩
theorem pq_hs(ks:List Int):shaped (.list (ks.map PyData.int))=true:=
 (Bool.and_eq_true _ _).mpr ⟨(pq_hc ks).1,by show decide (PyData.depthAll (ks.map PyData.int)+1≤64)=true;rw [(pq_hc ks).2];rfl⟩
theorem pq_he(ms:List Int):∀ ns:List Int,PyData.eqvAll (ms.map PyData.int) (ns.map PyData.int)=decide (ms=ns):=by
 induction ms with
 | nil=>intro ns;cases ns<;>rfl
 | cons m r ih=>
  intro ns
  cases ns with
  | nil=>rfl
  | cons n r'=>
   show((m==n)&&PyData.eqvAll (r.map PyData.int) (r'.map PyData.int))=_
   rw [ih];by_cases h:m=n<;>by_cases h':r=r'<;>simp [h,h']
theorem pq_ints{ms ns:List Int}:peqs (ms.map V.int) (ns.map V.int)=some (decide (ms=ns)):=by
 unfold peqs
 rw [pq_hp,pq_hp]
 show(if shaped _&&shaped _ then some (PyData.eqvAll _ _) else none)=_
 rw [pq_hs,pq_hs,pq_he];rfl
section
variable{i:Nat}{xs:List V}(h:H[i]? = some (.list xs))(hn:xs.length≤1000)
include h hn
theorem n_lstA{k:List V→M V}{P:V→Hp→Prop}:R.f (lstA k [.ref i] H) P X=R.f (k xs H) P X:=by
 show R.f (M.bind (getO i) (onList k) H) P X=_
 simp only [n_bnd,n_getO h]
 show R.f ((if xs.length≤1000 then k xs else no:M V) H) P X=_
 rw [if_pos hn]
theorem n_len{P:V→Hp→Prop}:R.f (bcall (.builtin "len") [.ref i] H) P X=P (.int xs.length) H:=n_lstA (k:=λ xs=>M.pure (.int xs.length)) h hn
theorem n_tupL{P:V→Hp→Prop}:R.f (bcall (.type "tuple") [.ref i] H) P X=P (.tup xs) H:=n_lstA (k:=λ xs=>M.pure (.tup xs)) h hn
theorem n_lstL{P:V→Hp→Prop}:R.f (bcall (.type "list") [.ref i] H) P X=P (.ref H.length) (H++[.list xs]):=n_lstA (k:=λ xs=>alloc (.list xs)) h hn
theorem n_maxL{m:Int}(hm:maxI xs=some m){P:V→Hp→Prop}:R.f (bcall (.builtin "max") [.ref i] H) P X=P (.int m) H:=by
 refine(n_lstA (k:=λ xs=>M.bind (ofO (maxI xs)) λ r=>M.pure (.int r)) h hn).trans ?_
 simp only [n_bnd,hm,n_ofO];rfl
theorem n_minL{m:Int}(hm:minI xs=some m){P:V→Hp→Prop}:R.f (bcall (.builtin "min") [.ref i] H) P X=P (.int m) H:=by
 refine(n_lstA (k:=λ xs=>M.bind (ofO (minI xs)) λ r=>M.pure (.int r)) h hn).trans ?_
 simp only [n_bnd,hm,n_ofO];rfl
theorem n_sumL{m:Int}(hm:sumI xs=some m){P:V→Hp→Prop}:R.f (bcall (.builtin "sum") [.ref i] H) P X=P (.int m) H:=by
 refine(n_lstA (k:=λ xs=>M.bind (ofO (sumI xs)) λ r=>M.pure (.int r)) h hn).trans ?_
 simp only [n_bnd,hm,n_ofO];rfl
theorem n_getL{k:Int}{v:V}{P:V→Hp→Prop}(hk:∃ j,idx k xs.length=some j∧xs[j]? = some v):R.f (getI (.ref i) (.int k) H) P X=P v H:=by
 show R.f (M.bind (getO i) (onL (itemI k)) H) P X=_
 rw [n_bnd,n_getO h]
 exact n_item hn hk
theorem n_setL{k:Int}{w:V}{P:Unit→Hp→Prop}(h0:0≤k)(h1:k<xs.length):R.f (setI (.ref i) (.int k) w H) P X=P () (H.set i (.list (xs.set k.toNat w))):=by
 show R.f (M.bind (getO i) (onL λ xs=>if 0≤k∧k<xs.length∧xs.length≤1000 then setO i (.list (xs.set k.toNat w)) else no) H) P X=_
 rw [n_bnd,n_getO h]
 show R.f ((if 0≤k∧k<xs.length∧xs.length≤1000 then setO i (.list (xs.set k.toNat w)) else no:M Unit) H) P X=_
 rw [if_pos ⟨h0,h1,hn⟩];rfl
theorem n_sliceL{K:Frag}{lo hi:V}{l u:Option Int}{P:V→Hp→Prop}(hl:partI lo=some l)(hu:partI hi=some u):R.f (sliceV K (.ref i) lo hi H) P X=P (.ref H.length) (H++[.list (cutL l u xs)]):=by
 unfold sliceV
 rw [hl,hu]
 show R.f (M.bind (getO i) (onL λ xs=>if xs.length≤1000 then alloc (.list (cutL l u xs)) else no) H) P X=_
 rw [n_bnd,n_getO h]
 exact n_ite hn
theorem n_app{call:CallT}{v:V}{P:V→Hp→Prop}:R.f (methC call .app (.ref i) [v] H) P X=P .none (H.set i (.list (xs++[v]))):=by
 show R.f (M.bind (getO i) (onL _) H) P X=_
 rw [n_bnd,n_getO h]
 exact n_ite hn
omit hn
theorem n_methA{K:Frag}{P:Mk→Hp→Prop}(h0:i≠0):R.f (methF K (.ref i) "append" H) P X=P .app H:=by
 show R.f (M.bind (getO i) _ H) P X=_
 rw [n_bnd,n_getO h]
 rw [n_ite ⟨h0,rfl⟩];rfl
theorem n_src{P:Src→Hp→Prop}:R.f (toSrc (.ref i) H) P X=P (.lst i) H:=by
 show R.f (M.bind (getO i) _ H) P X=_
 rw [n_bnd,n_getO h];rfl
end
theorem n_srcR{n:Int}{P:Src→Hp→Prop}(h:-1000≤n∧n≤1000):R.f (toSrc (.rng n) H) P X=P (.rng n) H:=by
 have e:toSrc (.rng n)=if -1000≤n∧n≤1000 then(M.pure (.rng n):M Src) else no:=rfl
 rw [e,n_ite h];rfl
theorem n_addL{i j:Nat}{xs ys:List V}{P:V→Hp→Prop}(h:H[i]? = some (.list xs))(h':H[j]? = some (.list ys))(hn:xs.length+ys.length≤1000):R.f (binV .Add (.ref i) (.ref j) H) P X=P (.ref H.length) (H++[.list (xs++ys)]):=by
 show R.f (M.bind (getO i) _ H) P X=_
 rw [n_bnd,n_getO h]
 show R.f (M.bind (getO j) _ H) P X=_
 rw [n_bnd,n_getO h']
 exact n_ite hn
theorem n_eqL{i j:Nat}{xs ys:List V}{b:Bool}{P:Bool→Hp→Prop}(h:H[i]? = some (.list xs))(h':H[j]? = some (.list ys))(hb:if xs.length=ys.length then peqs xs ys=some b else b=false):R.f (cmpV .Eq (.ref i) (.ref j) H) P X=P b H:=by
 show R.f (M.bind (getO i) (onL λ xs=>M.bind (getO j) (onL λ ys=>if xs.length=ys.length then ofO (peqs xs ys) else M.pure false)) H) P X=_
 rw [n_bnd,n_getO h]
 show R.f (M.bind (getO j) (onL λ ys=>if xs.length=ys.length then ofO (peqs xs ys) else M.pure false) H) P X=_
 rw [n_bnd,n_getO h']
 show R.f ((if xs.length=ys.length then ofO (peqs xs ys) else M.pure false:M Bool) H) P X=_
 by_cases q:xs.length=ys.length
 ·rw [if_pos q] at hb ⊢;rw [hb];rfl
 ·rw [if_neg q] at hb ⊢;rw [hb];rfl
theorem pqs_nil:peqs [] []=some true:=by
 rfl
theorem eq_nil{xs:List V}:if xs.length=([]:List V).length then peqs xs []=some (xs.isEmpty) else xs.isEmpty=false:=by
 cases xs with
 | nil=>rfl
 | cons a r=>rfl
section
variable{K:Frag}{i:Nat}{c:Addr}{fs:List (PySem.Str × V)}{x:PySem.Str}
noncomputable def getF(K:Frag)(x:PySem.Str)(c:Addr)(fs:List (PySem.Str × V)):M V:=onSome (findIn K (.ref c) x) λ r=>match r with
   | none=>onSome (lk x fs) λ v=>if notSta v then M.pure v else no
   | some w=>onSome (vInt w) λ k=>if(lk x fs).isSome||copiedNames.contains x then no else M.pure (.int k)
theorem n_getF(h:H[i]? = some (.inst c fs)){P:V→Hp→Prop}:R.f (getA K (.ref i) x H) P X=R.f (getF K x c fs H) P X:=by
 show R.f (M.bind (getO i) _ H) P X=_
 rw [n_bnd,n_getO h];rfl
theorem n_get(h:H[i]? = some (.inst c fs))(hf:findIn K (.ref c) x=some none){v:V}(hl:lk x fs=some v)(hn:notSta v=true){P:V→Hp→Prop}:R.f (getA K (.ref i) x H) P X=P v H:=by
 rw [n_getF h]
 unfold getF
 rw [hf]
 show R.f (onSome (lk x fs) (λ v=>if notSta v then M.pure v else no) H) P X=_
 rw [hl]
 exact n_ite hn
theorem n_getK(h:H[i]? = some (.inst c fs)){k:Int}(hf:intV2 (findIn K (.ref c) x)=some k)(hl:lk x fs=none)(hc:copiedNames.contains x=false){P:V→Hp→Prop}:R.f (getA K (.ref i) x H) P X=P (.int k) H:=by
 rw [n_getF h]
 unfold getF
 refine bind_is hf λ r e h=>bind_is h λ w e' h=>?_
 rw [e,e']
 show R.f (onSome (vInt w) (λ k=>if(lk x fs).isSome||copiedNames.contains x then no else M.pure (.int k)) H) P X=_
 rw [h,hl,hc];rfl
theorem n_set(h:H[i]? = some (.inst c fs))(hf:findIn K (.ref c) x=some none)(hn:fs.length≤900){w:V}{P:Unit→Hp→Prop}:R.f (setA K (.ref i) x w H) P X=P () (H.set i (.inst c (put x w fs))):=by
 show R.f (M.bind (getO i) _ H) P X=_
 rw [n_bnd,n_getO h]
 show R.f (onSome (findIn K (.ref c) x) (λ r=>if r.isNone&&decide (fs.length≤900) then setO i (.inst c (put x w fs)) else no) H) P X=_
 rw [hf]
 exact n_ite ((Bool.and_eq_true _ _).mpr ⟨rfl,decide_eq_true hn⟩)
theorem n_methF(h:H[i]? = some (.inst c fs)){f:Addr}(hf:findIn K (.ref c) x=some (some (.ref f))∧(isFn K (.ref f)&&keepIn K (.ref f))=true)(hl:lk x fs=none){P:Mk→Hp→Prop}:R.f (methF K (.ref i) x H) P X=P (.fn f) H:=by
 show R.f (M.bind (getO i) _ H) P X=_
 rw [n_bnd,n_getO h]
 show R.f (onSome (refF (findIn K (.ref c) x)) (λ f=>if(lk x fs).isNone&&isFn K (.ref f)&&keepIn K (.ref f) then M.pure (.fn f) else no) H) P X=_
 rw [hf.1,hl]
 exact n_ite hf.2
theorem n_methC{call:CallT}{f:Addr}{o:V}{args:List V}{P:V→Hp→Prop}:R.f (methC call (.fn f) o args H) P X=R.f (call f (o::args) [] H) P X:=rfl
theorem n_mkM{call:CallT}{f:Addr}{args:List V}{kws:List (PySem.Str × V)}{P:V→Hp→Prop}(h:R.f (call f (.ref H.length::args) kws (H++[.inst c []])) (λ r h=>r = .none∧P (.ref H.length) h) (λ _ _=>False)):R.f (mkM call c f args kws H) P X:=by
 show R.f (M.bind (alloc (.inst c [])) _ H) P X
 dsimp only [n_bnd,n_alloc]
 show R.f (M.bind (noexc _) _ _) P X
 dsimp only [n_bnd]
 refine n_noexc (h.mono (λ r h q=>?_) λ _ _ q=>q)
 rw [q.1]
 exact q.2
end
end
end VW.Internal
end
section
open PySem PySem.W PySem.SeqAt
set_option backward.match.sparseCases false
set_option maxRecDepth 100000
namespace VW.Internal
open VS.Internal
structure Gl where
 w:Int
 s:Int
 so:Int
 k:Int
 ko:Int
inductive Nd where
 | box (k w h d sh:Int)
 | rule (h d:Option Int)
 | skip (g:Gl) (s:Int)
 | kern (w:Int)
 | pen (v:Int)
 | mark (t:Int)
 | ins
 | spec
noncomputable def oV:Option Int→V
 | none=>.none
 | some i=>.int i
noncomputable def Nd.kind:Nd→Int
 | .box k _ _ _ _=>k
 | .rule ..=>4
 | .skip ..=>6
 | .kern ..=>5
 | .pen ..=>7
 | .mark ..=>9
 | .ins=>10
 | .spec=>13
noncomputable def Nd.hgt:Nd→Option Int
 | .box _ _ h _ _=>some h
 | .rule h _=>h
 | _=>none
noncomputable def Nd.dep:Nd→Option Int
 | .box _ _ _ d _=>some d
 | .rule _ d=>d
 | _=>none
noncomputable def Nd.std:Nd→Bool
 | .box ..=>true
 | .rule ..=>true
 | _=>false
noncomputable def okG(g:Gl):Prop:=(-100≤g.w∧g.w≤100)∧(0≤g.s∧g.s≤100)∧(0≤g.so∧g.so≤3)∧(0≤g.k∧g.k≤100)∧(g.ko=0∨g.ko=1)
noncomputable def Nd.ok:Nd→Prop
 | .box k w h d sh=>(k=2∨k=3)∧(0≤w∧w≤100)∧(0≤h∧h≤100)∧(-100≤d∧d≤100)∧(-100≤sh∧sh≤100)
 | .rule h d=>(h=none∨h=some 3)∧(d=none∨d=some 2)
 | .skip g s=>okG g∧(s=0∨s=108)
 | .kern w=>-100≤w∧w≤100
 | .pen v=>-20000≤v∧v≤10000
 | .mark _=>True
 | .ins=>True
 | .spec=>True
noncomputable def boxO(k w h d:Int)(it:V)(sh sg od:Int)(rt:V):O:=.inst 354 [("kind",.int k),("width",.int w),("height",.int h),("depth",.int d),("items",it),("shift",.int sh),("sign",.int sg),("order",.int od),("ratio",rt)]
noncomputable def ruleO(h d:Option Int):O:=.inst 375 [("width",.none),("height",oV h),("depth",oV d)]
noncomputable def kernO(w:Int):O:=.inst 396 [("width",.int w),("sort",.int 1)]
noncomputable def skipO(g:V)(s:Int):O:=.inst 418 [("glue",g),("sort",.int s),("leader",.none)]
noncomputable def penO(v:Int):O:=.inst 439 [("value",.int v)]
noncomputable def mkV(t:Int):V:=.tup [.tup [.int 11,.int t]]
noncomputable def markO(t:Int):O:=.inst 460 [("tokens",mkV t)]
noncomputable def insO(g it:V):O:=.inst 481 [("number",.int 3),("size",.int 7),("depth",.int 0),("top",g),("cost",.int 0),("items",it)]
noncomputable def specO:O:=.inst 502 [("octets",.byt #[118])]
noncomputable def glO(g:Gl):O:=.inst 250 [("width",.int g.w),("stretch",.int g.s),("stretch_order",.int g.so),("shrink",.int g.k),("shrink_order",.int g.ko)]
noncomputable def colO(a b:Int)(s:V)(k:Int):O:=.inst 686 [("height",.int a),("depth",.int b),("stretch",s),("shrink",.int k)]
noncomputable def totO(n:Int)(a b:V):O:=.inst 313 [("natural",.int n),("stretch",a),("shrink",b)]
noncomputable def r01:V:=.tup [.int 0,.int 1]
noncomputable def Pre(H H':Hp):Prop:=∀(i:Nat) (o:O),H[i]? = some o→H'[i]? = some o
theorem Pre.refl(H:Hp):Pre H H:=λ _ _ h=>h
theorem Pre.trans{H H' H'':Hp}(x:Pre H H')(y:Pre H' H''):Pre H H'':=λ i o h=>y i o (x i o h)
theorem Pre.app(H E:Hp):Pre H (H++E):=λ i o h=>by
 have:=(List.getElem?_eq_some_iff.mp h).1
 rw [List.getElem?_append_left this];exact h
theorem Pre.app'{H H':Hp}(x:Pre H H')(E:Hp):Pre H (H'++E):=x.trans (.app _ _)
theorem Pre.len{H H':Hp}(x:Pre H H'):H.length≤H'.length:=by
 cases H with
 | nil=>exact Nat.zero_le _
 | cons a r=>
  have:=x r.length ((a::r)[r.length]'(by simp)) (by simp)
  have:=(List.getElem?_eq_some_iff.mp this).1
  simp only [List.length_cons];assumption
theorem Pre.set{H H':Hp}{i:Nat}{o:O}(x:Pre H H')(hi:H.length≤i):Pre H (H'.set i o):=λ j o' h=>by
 have:=(List.getElem?_eq_some_iff.mp h).1
 rw [List.getElem?_set_ne (Nat.ne_of_gt (Nat.lt_of_lt_of_le this hi))];exact x j o' h
theorem at_last{H:Hp}{o:O}:(H++[o])[H.length]? = some o:=by simp
theorem set_at{H:Hp}{i:Nat}{o o':O}(h:H[i]? = some o):(H.set i o')[i]? = some o':=by
 rw [List.getElem?_set_self (List.getElem?_eq_some_iff.mp h).1]
theorem lt_of{H:Hp}{i:Nat}{o:O}(h:H[i]? = some o):i<H.length:=(List.getElem?_eq_some_iff.mp h).1
noncomputable def GlAt(H:Hp)(v:V)(g:Gl):Prop:=∃ j,v = .ref j∧H[j]? = some (glO g)
noncomputable def NdAt(H:Hp)(v:V)(nd:Nd):Prop:=∃ i,v = .ref i∧match nd with
 | .box k w h d sh=>∃ j,H[i]? = some (boxO k w h d (.ref j) sh 0 0 r01)∧H[j]? = some (.list [])
 | .rule h d=>H[i]? = some (ruleO h d)
 | .skip g s=>∃ u,H[i]? = some (skipO u s)∧GlAt H u g
 | .kern w=>H[i]? = some (kernO w)
 | .pen v=>H[i]? = some (penO v)
 | .mark t=>H[i]? = some (markO t)
 | .ins=>∃ u j,H[i]? = some (insO u (.ref j))∧GlAt H u ⟨0,0,0,0,0⟩∧H[j]? = some (.list [])
 | .spec=>H[i]? = some specO
theorem GlAt.mono{H H':Hp}{v:V}{g:Gl}(x:Pre H H')(h:GlAt H v g):GlAt H' v g:=let ⟨j,e,h⟩:=h;⟨j,e,x _ _ h⟩
theorem NdAt.mono{H H':Hp}{v:V}{nd:Nd}(x:Pre H H')(h:NdAt H v nd):NdAt H' v nd:=by
 obtain⟨i,e,h⟩:=h
 refine⟨i,e,?_⟩
 cases nd with
 | box=>obtain⟨j,h1,h2⟩:=h;exact⟨j,x _ _ h1,x _ _ h2⟩
 | skip=>obtain⟨j,h1,h2⟩:=h;exact⟨j,x _ _ h1,h2.mono x⟩
 | ins=>obtain⟨u,j,h1,h2,h3⟩:=h;exact⟨u,j,x _ _ h1,h2.mono x,x _ _ h3⟩
 | _=>exact x _ _ h
inductive All2{α β:Type}(R:α→β→Prop):List α→List β→Prop
 | nil:All2 R [] []
 | cons {a b as bs}:R a b→All2 R as bs→All2 R (a::as) (b::bs)
namespace All2
variable{α β:Type}{R:α→β→Prop}
theorem length{as:List α}{bs:List β}(h:All2 R as bs):as.length=bs.length:=by
 induction h with
 | nil=>rfl
 | cons _ _ ih=>simp [ih]
theorem mono{R':α→β→Prop}{as:List α}{bs:List β}(h:All2 R as bs)(hR:∀ a b,R a b→R' a b):All2 R' as bs:=by
 induction h with
 | nil=>exact .nil
 | cons h _ ih=>exact .cons (hR _ _ h) ih
theorem get{as:List α}{bs:List β}(h:All2 R as bs):∀{j:Nat}{b:β},bs[j]? = some b→∃ a,as[j]? = some a∧R a b:=by
 induction h with
 | nil=>intro j b h;simp at h
 | cons h _ ih=>
  intro j b hj
  cases j with
  | zero=>simp at hj;subst hj;exact⟨_,by simp,h⟩
  | succ j=>simp at hj;simpa using ih hj
theorem getL{as:List α}{bs:List β}(h:All2 R as bs):∀{j:Nat}{a:α},as[j]? = some a→∃ b,bs[j]? = some b∧R a b:=by
 induction h with
 | nil=>intro j b h;simp at h
 | cons h _ ih=>
  intro j b hj
  cases j with
  | zero=>simp at hj;subst hj;exact⟨_,by simp,h⟩
  | succ j=>simp at hj;simpa using ih hj
theorem take{as:List α}{bs:List β}(h:All2 R as bs):∀ n,All2 R (as.take n) (bs.take n):=by
 induction h with
 | nil=>intro n;simp;exact .nil
 | cons h _ ih=>
  intro n
  cases n with
  | zero=>exact .nil
  | succ n=>exact .cons h (ih n)
theorem drop{as:List α}{bs:List β}(h:All2 R as bs):∀ n,All2 R (as.drop n) (bs.drop n):=by
 induction h with
 | nil=>intro n;simp;exact .nil
 | cons h t ih=>
  intro n
  cases n with
  | zero=>exact .cons h t
  | succ n=>exact ih n
theorem append{as as':List α}{bs bs':List β}(h:All2 R as bs)(h':All2 R as' bs'):All2 R (as++as') (bs++bs'):=by
 induction h with
 | nil=>exact h'
 | cons h _ ih=>exact .cons h ih
theorem nil_iff{as:List α}{bs:List β}(h:All2 R as bs):as.isEmpty=bs.isEmpty:=by cases h<;>rfl
end All2
theorem cpK:copiedNames.contains ("kind" : PySem.Str)=false:=by decide +kernel
section
variable{K:Frag}(F:KF K){H:Hp}{i:Nat}{X:Addr→Hp→Prop}
include F
theorem nd_kind{v:V}{nd:Nd}(h:NdAt H v nd){P:V→Hp→Prop}:R.f (getA K v "kind" H) P X=P (.int nd.kind) H:=by
 obtain⟨i,rfl,h⟩:=h
 cases nd with
 | box=>obtain⟨j,h1,_⟩:=h;exact n_get h1 F.a_354_kind rfl rfl
 | rule=>exact n_getK h F.k_375 rfl cpK
 | skip=>obtain⟨j,h1,_⟩:=h;exact n_getK h1 F.k_418 rfl cpK
 | kern=>exact n_getK h F.k_396 rfl cpK
 | pen=>exact n_getK h F.k_439 rfl cpK
 | mark=>exact n_getK h F.k_460 rfl cpK
 | ins=>obtain⟨u,j,h1,_⟩:=h;exact n_getK h1 F.k_481 rfl cpK
 | spec=>exact n_getK h F.k_502 rfl cpK
theorem nd_height{v:V}{nd:Nd}(h:NdAt H v nd)(hs:nd.std=true){P:V→Hp→Prop}:R.f (getA K v "height" H) P X=P (oV nd.hgt) H:=by
 obtain⟨i,rfl,h⟩:=h
 cases nd with
 | box=>obtain⟨j,h1,_⟩:=h;exact n_get h1 F.a_354_height rfl rfl
 | rule a b=>exact n_get h F.a_375_height rfl (by cases a<;>rfl)
 | _=>cases hs
theorem nd_depth{v:V}{nd:Nd}(h:NdAt H v nd)(hs:nd.std=true){P:V→Hp→Prop}:R.f (getA K v "depth" H) P X=P (oV nd.dep) H:=by
 obtain⟨i,rfl,h⟩:=h
 cases nd with
 | box=>obtain⟨j,h1,_⟩:=h;exact n_get h1 F.a_354_depth rfl rfl
 | rule a b=>exact n_get h F.a_375_depth rfl (by cases b<;>rfl)
 | _=>cases hs
section
variable{k w h d sh:Int}{sg od:Int}{it rt:V}(e:H[i]? = some (boxO k w h d it sh sg od rt))
include e
theorem bx_kind{P:V→Hp→Prop}:R.f (getA K (.ref i) "kind" H) P X=P (.int k) H:=n_get e F.a_354_kind rfl rfl
theorem bx_width{P:V→Hp→Prop}:R.f (getA K (.ref i) "width" H) P X=P (.int w) H:=n_get e F.a_354_width rfl rfl
theorem bx_height{P:V→Hp→Prop}:R.f (getA K (.ref i) "height" H) P X=P (.int h) H:=n_get e F.a_354_height rfl rfl
theorem bx_depth{P:V→Hp→Prop}:R.f (getA K (.ref i) "depth" H) P X=P (.int d) H:=n_get e F.a_354_depth rfl rfl
theorem bx_shift{P:V→Hp→Prop}:R.f (getA K (.ref i) "shift" H) P X=P (.int sh) H:=n_get e F.a_354_shift rfl rfl
theorem bx_sign{P:V→Hp→Prop}:R.f (getA K (.ref i) "sign" H) P X=P (.int sg) H:=n_get e F.a_354_sign rfl rfl
theorem bx_order{P:V→Hp→Prop}:R.f (getA K (.ref i) "order" H) P X=P (.int od) H:=n_get e F.a_354_order rfl rfl
theorem bx_items{P:V→Hp→Prop}(hn:notSta it=true):R.f (getA K (.ref i) "items" H) P X=P it H:=n_get e F.a_354_items rfl hn
theorem bx_ratio{P:V→Hp→Prop}(hn:notSta rt=true):R.f (getA K (.ref i) "ratio" H) P X=P rt H:=n_get e F.a_354_ratio rfl hn
end
section
variable{g:Gl}(e:H[i]? = some (glO g))
include e
theorem gl_w{P:V→Hp→Prop}:R.f (getA K (.ref i) "width" H) P X=P (.int g.w) H:=n_get e F.a_250_width rfl rfl
theorem gl_s{P:V→Hp→Prop}:R.f (getA K (.ref i) "stretch" H) P X=P (.int g.s) H:=n_get e F.a_250_stretch rfl rfl
theorem gl_so{P:V→Hp→Prop}:R.f (getA K (.ref i) "stretch_order" H) P X=P (.int g.so) H:=n_get e F.a_250_stretch_order rfl rfl
theorem gl_k{P:V→Hp→Prop}:R.f (getA K (.ref i) "shrink" H) P X=P (.int g.k) H:=n_get e F.a_250_shrink rfl rfl
theorem gl_ko{P:V→Hp→Prop}:R.f (getA K (.ref i) "shrink_order" H) P X=P (.int g.ko) H:=n_get e F.a_250_shrink_order rfl rfl
end
section
variable{a b k:Int}{s:V}(e:H[i]? = some (colO a b s k))
include e
theorem co_h{P:V→Hp→Prop}:R.f (getA K (.ref i) "height" H) P X=P (.int a) H:=n_get e F.a_686_height rfl rfl
theorem co_d{P:V→Hp→Prop}:R.f (getA K (.ref i) "depth" H) P X=P (.int b) H:=n_get e F.a_686_depth rfl rfl
theorem co_s{P:V→Hp→Prop}(hn:notSta s=true):R.f (getA K (.ref i) "stretch" H) P X=P s H:=n_get e F.a_686_stretch rfl hn
theorem co_k{P:V→Hp→Prop}:R.f (getA K (.ref i) "shrink" H) P X=P (.int k) H:=n_get e F.a_686_shrink rfl rfl
theorem co_seth{x:Int}{P:Unit→Hp→Prop}:R.f (setA K (.ref i) "height" (.int x) H) P X=P () (H.set i (colO x b s k)):=n_set e F.a_686_height (by simp)
theorem co_setd{x:Int}{P:Unit→Hp→Prop}:R.f (setA K (.ref i) "depth" (.int x) H) P X=P () (H.set i (colO a x s k)):=n_set e F.a_686_depth (by simp)
theorem co_setk{x:Int}{P:Unit→Hp→Prop}:R.f (setA K (.ref i) "shrink" (.int x) H) P X=P () (H.set i (colO a b s x)):=n_set e F.a_686_shrink (by simp)
theorem co_stand{P:Mk→Hp→Prop}:R.f (methF K (.ref i) "stand" H) P X=P (.fn 662) H:=n_methF e F.t_686_stand rfl
theorem co_keep{P:Mk→Hp→Prop}:R.f (methF K (.ref i) "keep" H) P X=P (.fn 669) H:=n_methF e F.t_686_keep rfl
theorem co_flow{P:Mk→Hp→Prop}:R.f (methF K (.ref i) "flow" H) P X=P (.fn 676) H:=n_methF e F.t_686_flow rfl
theorem co_cost{P:Mk→Hp→Prop}:R.f (methF K (.ref i) "cost" H) P X=P (.fn 683) H:=n_methF e F.t_686_cost rfl
end
section
variable{n:Int}{a b:V}(e:H[i]? = some (totO n a b))
include e
theorem to_n{P:V→Hp→Prop}:R.f (getA K (.ref i) "natural" H) P X=P (.int n) H:=n_get e F.a_313_natural rfl rfl
theorem to_s{P:V→Hp→Prop}(hn:notSta a=true):R.f (getA K (.ref i) "stretch" H) P X=P a H:=n_get e F.a_313_stretch rfl hn
theorem to_k{P:V→Hp→Prop}(hn:notSta b=true):R.f (getA K (.ref i) "shrink" H) P X=P b H:=n_get e F.a_313_shrink rfl hn
theorem to_setn{x:Int}{P:Unit→Hp→Prop}:R.f (setA K (.ref i) "natural" (.int x) H) P X=P () (H.set i (totO x a b)):=n_set e F.a_313_natural (by simp)
theorem to_add{P:Mk→Hp→Prop}:R.f (methF K (.ref i) "add" H) P X=P (.fn 282) H:=n_methF e F.t_313_add rfl
theorem to_widen{P:Mk→Hp→Prop}:R.f (methF K (.ref i) "widen" H) P X=P (.fn 289) H:=n_methF e F.t_313_widen rfl
theorem to_stt{P:Mk→Hp→Prop}:R.f (methF K (.ref i) "stretch_top" H) P X=P (.fn 296) H:=n_methF e F.t_313_stretch_top rfl
theorem to_sht{P:Mk→Hp→Prop}:R.f (methF K (.ref i) "shrink_top" H) P X=P (.fn 303) H:=n_methF e F.t_313_shrink_top rfl
end
theorem kn_w{w:Int}(e:H[i]? = some (kernO w)){P:V→Hp→Prop}:R.f (getA K (.ref i) "width" H) P X=P (.int w) H:=n_get e F.a_396_width rfl rfl
theorem kn_s{w:Int}(e:H[i]? = some (kernO w)){P:V→Hp→Prop}:R.f (getA K (.ref i) "sort" H) P X=P (.int 1) H:=n_get e F.a_396_sort rfl rfl
theorem sk_g{g:V}{s:Int}(e:H[i]? = some (skipO g s))(hn:notSta g=true){P:V→Hp→Prop}:R.f (getA K (.ref i) "glue" H) P X=P g H:=n_get e F.a_418_glue rfl hn
theorem sk_s{g:V}{s:Int}(e:H[i]? = some (skipO g s)){P:V→Hp→Prop}:R.f (getA K (.ref i) "sort" H) P X=P (.int s) H:=n_get e F.a_418_sort rfl rfl
theorem sk_l{g:V}{s:Int}(e:H[i]? = some (skipO g s)){P:V→Hp→Prop}:R.f (getA K (.ref i) "leader" H) P X=P .none H:=n_get e F.a_418_leader rfl rfl
theorem pe_v{v:Int}(e:H[i]? = some (penO v)){P:V→Hp→Prop}:R.f (getA K (.ref i) "value" H) P X=P (.int v) H:=n_get e F.a_439_value rfl rfl
theorem ma_t{t:Int}(e:H[i]? = some (markO t)){P:V→Hp→Prop}:R.f (getA K (.ref i) "tokens" H) P X=P (mkV t) H:=n_get e F.a_460_tokens rfl rfl
theorem ru_w{h d:Option Int}(e:H[i]? = some (ruleO h d)){P:V→Hp→Prop}:R.f (getA K (.ref i) "width" H) P X=P .none H:=n_get e F.a_375_width rfl rfl
theorem sp_o(e:H[i]? = some specO){P:V→Hp→Prop}:R.f (getA K (.ref i) "octets" H) P X=P (.byt #[118]) H:=n_get e F.a_502_octets rfl rfl
section
variable{g it:V}(e:H[i]? = some (insO g it))
include e
theorem in_n{P:V→Hp→Prop}:R.f (getA K (.ref i) "number" H) P X=P (.int 3) H:=n_get e F.a_481_number rfl rfl
theorem in_s{P:V→Hp→Prop}:R.f (getA K (.ref i) "size" H) P X=P (.int 7) H:=n_get e F.a_481_size rfl rfl
theorem in_d{P:V→Hp→Prop}:R.f (getA K (.ref i) "depth" H) P X=P (.int 0) H:=n_get e F.a_481_depth rfl rfl
theorem in_t{P:V→Hp→Prop}(hn:notSta g=true):R.f (getA K (.ref i) "top" H) P X=P g H:=n_get e F.a_481_top rfl hn
theorem in_c{P:V→Hp→Prop}:R.f (getA K (.ref i) "cost" H) P X=P (.int 0) H:=n_get e F.a_481_cost rfl rfl
theorem in_i{P:V→Hp→Prop}(hn:notSta it=true):R.f (getA K (.ref i) "items" H) P X=P it H:=n_get e F.a_481_items rfl hn
end
end
end VW.Internal
end
section
open PySem PySem.W PySem.SeqAt
set_option backward.match.sparseCases false
set_option maxRecDepth 100000
namespace VW.Internal
open VS.Internal
theorem det{α:Type}{m:M α}{H H':Hp}{v:α}(h:R.f (m H) (λ a h=>a=v∧h=H') (λ _ _=>False)){P:α→Hp→Prop}{X:Addr→Hp→Prop}:R.f (m H) P X=P v H':=propext ⟨λ q=>(m H).good.str (((m H).good.conj h q).mono (λ _ _ q=>by obtain⟨⟨rfl,rfl⟩,q⟩:=q;exact q) λ _ _ q=>q.1.elim),λ q=>h.mono (λ _ _ e=>by obtain⟨rfl,rfl⟩:=e;exact q) λ _ _ e=>e.elim⟩
theorem jp_eq(k:Lo→M Fl)(f:(Lo→M Fl)→M Fl):jp k f=f k:=rfl
theorem lk_self(x:PySem.Str)(v:V)(ρ:Lo):lk x (put x v ρ)=some v:=by
 induction ρ with
 | nil=>exact if_pos (beq_self_eq_true x)
 | cons p r ih=>
  rw [show put x v (p::r)=if p.1==x then(p.1,v)::r else p::put x v r from rfl]
  by_cases h:(p.1==x)=true
  ·rw [if_pos h];exact if_pos h
  ·rw [if_neg h];exact(if_neg h).trans ih
theorem lk_ne{x y:PySem.Str}{v:V}(h:(x==y)=false)(ρ:Lo):lk y (put x v ρ)=lk y ρ:=by
 have hn:¬(x==y)=true:=λ q=>by rw [h] at q;cases q
 induction ρ with
 | nil=>exact if_neg hn
 | cons p r ih=>
  rw [show put x v (p::r)=if p.1==x then(p.1,v)::r else p::put x v r from rfl]
  by_cases q:(p.1==x)=true
  ·rw [if_pos q]
   have e:¬(p.1==y)=true:=eq_of_beq q▸hn
   exact(if_neg e).trans (if_neg e).symm
  ·rw [if_neg q];exact congrArg (λ z=>if p.1==y then some p.2 else z) ih
theorem mul_small{i j:Int}(h:-9223372036854775808<i∧i<9223372036854775808):mulOk i j=true:=by
 exact(Bool.or_eq_true _ _).mpr (.inl (decide_eq_true (absL h)))
theorem mul_small'{i j:Int}(h:-9223372036854775808<j∧j<9223372036854775808):mulOk i j=true:=by
 exact(Bool.or_eq_true _ _).mpr (.inr (decide_eq_true (absL h)))
theorem div_small{i j:Int}(h:0<j∧j<9223372036854775808):divOk i j=true:=by
 exact(Bool.and_eq_true _ _).mpr ⟨decide_eq_true (Int.ne_of_gt h.1),decide_eq_true (absL ⟨Int.lt_trans (by decide) h.1,h.2⟩)⟩
theorem n_eqB{a b:Bool}{H:Hp}{X:Addr→Hp→Prop}{P:Bool→Hp→Prop}:R.f (cmpV .Eq (.bool a) (.bool b) H) P X=P (a==b) H:=by
 cases a<;>cases b<;>rfl
theorem n_turn{α:Type}{s:Src}{i:Nat}{e:M α}{f:V→M α}{H:Hp}{r:Option V}(h:itemAt s i H=some r){P:α→Hp→Prop}{X:Addr→Hp→Prop}:R.f (turn s i e f H) P X=R.f (r.elim (e H) λ v=>f v H) P X:=by
 unfold turn;rw [h];cases r<;>rfl
theorem at_lst{i k:Nat}{H:Hp}{vs:List V}(h:H[i]? = some (.list vs)):itemAt (.lst i) k H=some vs[k]?:=by
 show(H[i]?.bind λ o=>(lstO o).map (·[k]?))=_
 rw [h];rfl
theorem at_range{n j:Nat}{H:Hp}:itemAt (.rng (n:Int)) j H=some ((List.range n).map λ(j:Nat)=>V.int (j:Int))[j]?:=by
 show some (if(j:Int)<(n:Int) then some (V.int (j:Int)) else none)=_
 rw [List.getElem?_map]
 by_cases hj:j<n
 ·rw [if_pos (Int.ofNat_lt.mpr hj),List.getElem?_range hj];rfl
 ·rw [if_neg λ q=>hj (Int.ofNat_lt.mp q),List.getElem?_eq_none (by rw [List.length_range];exact Nat.le_of_not_lt hj)];rfl
theorem for_some{n i:Nat}{s:Src}{ρ:Lo}{body:V→Lo→(Lo→M Fl)→M Fl}{k:Lo→M Fl}{H:Hp}{v:V}(h:itemAt s i H=some (some v)){P:Fl→Hp→Prop}{X:Addr→Hp→Prop}:R.f (forLoop (n+1) s i ρ body k H) P X=R.f (body v ρ (λ ρ'=>forLoop n s (i+1) ρ' body k) H) P X:=n_turn h
theorem for_none{n i:Nat}{s:Src}{ρ:Lo}{body:V→Lo→(Lo→M Fl)→M Fl}{k:Lo→M Fl}{H:Hp}(h:itemAt s i H=some none){P:Fl→Hp→Prop}{X:Addr→Hp→Prop}:R.f (forLoop (n+1) s i ρ body k H) P X=R.f (k ρ H) P X:=n_turn h
theorem put_le{n:Nat}{x:PySem.Str}{v:V}{fs:List (PySem.Str × V)}(h:fs.length≤n):(put x v fs).length≤n+1:=Nat.le_trans (put_length x v fs) (Nat.succ_le_succ h)
theorem n_setZ{K:Frag}{c:Addr}{fs:List (PySem.Str × V)}{x:PySem.Str}{H:Hp}{X:Addr→Hp→Prop}(hf:findIn K (.ref c) x=some none)(hn:fs.length≤900){w:V}{P:Unit→Hp→Prop}:R.f (setA K (.ref H.length) x w (H++[.inst c fs])) P X=P () (H++[.inst c (put x w fs)]):=by
 rw [n_set at_last hf hn]
 simp
noncomputable def vbad(e t:Int):Int:=if e=0 then 0 else if t≤0 then 10000 else if(e*297).fdiv t>1290 then 10000 else((e*297).fdiv t*(e*297).fdiv t*(e*297).fdiv t+131072).fdiv 262144
section
variable{K:Frag}(F:KF K){H:Hp}{i:Nat}{X:Addr→Hp→Prop}{n:Nat}{hd:Bool}
include F
theorem f_whole{v a b:Int}{P:V→Hp→Prop}:R.f (callF K (n+1) hd 105 [.int v,.int a,.int b] [] H) P X=P (.bool (decide (a≤v)&&decide (v≤b))) H:=by
 refine det ?_
 rw [F.u_105]
 simp only [↓n_bind,↓n_K,↓n_Kr,↓n_pure,↓n_asB,↓n_le,↓n_not,↓n_isi,↓n_isb,↓n_ifb,n_iT,n_iD,Bool.not_false]
 by_cases h1:a≤v<;>by_cases h2:v≤b<;>simp [h1,h2]
theorem f_cw{v:Int}{P:V→Hp→Prop}:R.f (callF K (n+1) hd 112 [.int v] [] H) P X=P (.int v) H:=by
 refine det ?_
 rw [F.u_112]
 simp [↓n_bind,↓n_K,↓n_Kr,↓n_pure,↓n_asB,↓n_not,↓n_isi,↓n_isb,↓n_ifb,n_iF,Bool.not_true]
theorem f_cn{v:Int}(h:-2147483647≤v∧v≤2147483647){P:V→Hp→Prop}:R.f (callF K (n+2) hd 119 [.int v] [] H) P X=P (.int v) H:=by
 refine det ?_
 rw [F.u_119]
 simp [↓n_bind,↓n_K,↓n_Kr,↓n_pure,↓n_asB,↓n_le,↓n_not,↓n_ifb,n_iT,n_iF,Bool.not_true,↓f_cw F,h]
theorem f_cd{v:Int}(h:-1073741823≤v∧v≤1073741823){P:V→Hp→Prop}:R.f (callF K (n+2) hd 126 [.int v] [] H) P X=P (.int v) H:=by
 refine det ?_
 rw [F.u_126]
 simp [↓n_bind,↓n_K,↓n_Kr,↓n_pure,↓n_asB,↓n_le,↓n_not,↓n_ifb,n_iT,n_iF,Bool.not_true,↓f_cw F,h]
theorem f_bad{e t:Int}(he:0≤e∧e≤7230584)(ht:t<9223372036854775808){P:V→Hp→Prop}:R.f (callF K (n+1) hd 168 [.int e,.int t] [] H) P X=P (.int (vbad e t)) H:=by
 refine det ?_
 rw [F.u_168]
 have h1:¬ e<0:=Int.not_lt.mpr he.1
 simp only [↓n_bind,↓n_K,↓n_Kr,↓n_pure,↓n_lt,↓n_le,↓n_gt,↓n_ge,↓n_eqI,↓n_ifb,n_iF,n_iD,h1,decide_false,Bool.false_eq_true,false_implies,true_and,true_implies,decide_eq_true_eq,decide_eq_false_iff_not]
 unfold vbad
 refine⟨λ h=>by simp [h],λ h0=>⟨λ h=>by simp [h0,h],λ h2=>⟨λ h3=>?_,λ h3=>absurd he.2 h3⟩⟩⟩
 rw [n_mul (mul_small (wlt he (by decide) (by decide))),n_K,n_bind,n_div (div_small ⟨Int.not_le.mp h2,ht⟩)]
 simp only [↓n_bind,↓n_K,↓n_Kr,↓n_pure,↓n_gt,↓n_ifb,n_iD]
 have hq:0≤(e*297).fdiv t:=Int.fdiv_nonneg (Int.mul_nonneg he.1 (by decide)) (Int.le_of_lt (Int.not_le.mp h2))
 refine⟨λ h=>by simp [h0,h2,h],λ h=>?_⟩
 have h':¬(1290<(e*297).fdiv t):=h
 rw [n_mul (mul_small (wlt ⟨hq,Int.not_lt.mp h⟩ (by decide) (by decide))),n_K,n_bind,n_mul (mul_small' (wlt ⟨hq,Int.not_lt.mp h⟩ (by decide) (by decide)))]
 simp only [↓n_bind,↓n_K,↓n_add]
 rw [n_div (div_small (by decide))]
 simp only [↓n_K,↓n_Kr,↓n_pure]
 simp [h0,h2,h']
theorem f_parts{g:Gl}(e:H[i]? = some (glO g)){P:V→Hp→Prop}:R.f (callF K (n+1) hd 204 [.ref i] [] H) P X=P (.tup [.int g.w,.int g.s,.int g.so,.int g.k,.int g.ko]) H:=by
 refine det ?_
 rw [F.u_204]
 simp [↓n_bind,↓n_K,↓n_Kr,↓n_pure,↓gl_w F e,↓gl_s F e,↓gl_so F e,↓gl_k F e,↓gl_ko F e]
noncomputable def nrm(g:Gl):Gl:=⟨g.w,g.s,if g.s=0 then 0 else g.so,g.k,if g.k=0 then 0 else g.ko⟩
theorem mk_gl{w s so k ko:Int}(hw:-1073741823≤w∧w≤1073741823)(hs:-1073741823≤s∧s≤1073741823)(hk:-1073741823≤k∧k≤1073741823)(hso:0≤so∧so≤3)(hko:0≤ko∧ko≤3){P:V→Hp→Prop} :
  R.f (makeV K (callF K (n+3) hd) 250 [.int w,.int s,.int so,.int k,.int ko] [] H) P X=P (.ref H.length) (H++[glO (nrm ⟨w,s,so,k,ko⟩)]):=by
 rw [F.m_250]
 refine det (n_mkM ?_)
 rw [F.u_197]
 simp (maxDischargeDepth:=14) only [↓n_bind,↓n_K,↓n_Kn,↓n_pure,↓n_asB,↓n_not,↓n_neI,↓n_ifb,n_iF,n_iN,Bool.not_true,↓f_whole F,↓f_cd F hw,↓f_cd F hs,↓f_cd F hk,hso,hko,decide_true,Bool.and_self,Bool.not_true,Bool.false_eq_true,false_implies,true_implies,and_true,true_and,↓n_setZ F.a_250_width,↓n_setZ F.a_250_stretch,↓n_setZ F.a_250_stretch_order,↓n_setZ F.a_250_shrink,↓n_setZ F.a_250_shrink_order,put_le,List.length_nil,Nat.zero_le]
 by_cases h1:s=0<;>by_cases h2:k=0<;>simp (maxDischargeDepth:=14) [↓f_whole F,hko,hso,h1,h2,↓n_setZ F.a_250_width,↓n_setZ F.a_250_stretch,↓n_setZ F.a_250_stretch_order,↓n_setZ F.a_250_shrink,↓n_setZ F.a_250_shrink_order,put_le]<;>(first | rfl | (simp only [nrm,h1,h2,if_true,if_false];rfl))
theorem mk_gl0{P:V→Hp→Prop}:R.f (makeV K (callF K (n+3) hd) 250 [] [] H) P X=P (.ref H.length) (H++[glO ⟨0,0,0,0,0⟩]):=by
 rw [F.m_250]
 refine det (n_mkM ?_)
 rw [F.u_197_1]
 simp (maxDischargeDepth:=14) [↓n_bind,↓n_K,↓n_Kn,↓n_pure,↓n_asB,↓n_not,↓n_neI,↓n_ifb,n_iF,Bool.not_true,↓f_whole F,↓f_cd F,↓n_setZ F.a_250_width,↓n_setZ F.a_250_stretch,↓n_setZ F.a_250_stretch_order,↓n_setZ F.a_250_shrink,↓n_setZ F.a_250_shrink_order,put_le]
 rfl
theorem mk_box{k w h d:Int}{it:V}(hk:2≤k∧k≤3)(hw:-1073741823≤w∧w≤1073741823)(hh:-1073741823≤h∧h≤1073741823)(hdd:-1073741823≤d∧d≤1073741823){P:V→Hp→Prop} :
  R.f (makeV K (callF K (n+3) hd) 354 [.int k,.int w,.int h,.int d,it] [] H) P X=P (.ref H.length) (H++[boxO k w h d it 0 0 0 r01]):=by
 rw [F.m_354]
 refine det (n_mkM ?_)
 rw [F.u_351]
 simp (maxDischargeDepth:=14) [↓n_bind,↓n_K,↓n_Kn,↓n_pure,↓n_asB,↓n_not,↓n_ifb,n_iF,Bool.not_true,↓f_whole F,↓f_cd F,hk,hw,hh,hdd,↓n_setZ F.a_354_kind,↓n_setZ F.a_354_width,↓n_setZ F.a_354_height,↓n_setZ F.a_354_depth,↓n_setZ F.a_354_items,↓n_setZ F.a_354_shift,↓n_setZ F.a_354_sign,↓n_setZ F.a_354_order,↓n_setZ F.a_354_ratio,put_le]
 rfl
theorem mk_kern{w:Int}(hw:-1073741823≤w∧w≤1073741823){P:V→Hp→Prop} :
  R.f (makeV K (callF K (n+3) hd) 396 [.int w,.int 1] [] H) P X=P (.ref H.length) (H++[kernO w]):=by
 rw [F.m_396]
 refine det (n_mkM ?_)
 rw [F.u_393]
 simp (maxDischargeDepth:=14) [↓n_bind,↓n_K,↓n_Kn,↓n_pure,↓n_asB,↓n_not,↓n_ifb,n_iF,Bool.not_true,↓f_whole F,↓f_cd F,hw,↓n_setZ F.a_396_width,↓n_setZ F.a_396_sort,put_le]
 rfl
theorem mk_skip{g:V}{s:Int}(hs:s=0∨s=108){P:V→Hp→Prop} :
  R.f (makeV K (callF K (n+3) hd) 418 [g,.int s] [] H) P X=P (.ref H.length) (H++[skipO g s]):=by
 rw [F.m_418]
 refine det (n_mkM ?_)
 rw [F.u_415_3]
 rcases hs with rfl | rfl
 ·simp (maxDischargeDepth:=14) [↓n_bind,↓n_K,↓n_Kn,↓n_pure,↓n_asB,↓n_le,↓n_not,↓n_ifb,n_iF,Bool.not_true,↓f_whole F,↓f_cd F,↓n_is,↓n_isnot,isN_n,isN_i,isN_r,↓n_eqB,↓n_setZ F.a_418_glue,↓n_setZ F.a_418_sort,↓n_setZ F.a_418_leader,put_le,show notSta V.none=true from rfl]
  rfl
 ·simp (maxDischargeDepth:=14) [↓n_bind,↓n_K,↓n_Kn,↓n_pure,↓n_asB,↓n_le,↓n_add,↓n_not,↓n_ifb,n_iT,n_iF,Bool.not_false,Bool.not_true,↓f_whole F,↓f_cd F,↓n_is,↓n_isnot,isN_n,isN_i,isN_r,↓n_eqB,↓n_setZ F.a_418_glue,↓n_setZ F.a_418_sort,↓n_setZ F.a_418_leader,put_le,show notSta V.none=true from rfl]
  rfl
theorem mk_pen{v:Int}(hv:-2147483647≤v∧v≤2147483647){P:V→Hp→Prop} :
  R.f (makeV K (callF K (n+3) hd) 439 [.int v] [] H) P X=P (.ref H.length) (H++[penO v]):=by
 rw [F.m_439]
 refine det (n_mkM ?_)
 rw [F.u_436]
 simp (maxDischargeDepth:=14) [↓n_bind,↓n_K,↓n_Kn,↓n_pure,↓f_cn F,hv,↓n_setZ F.a_439_value,put_le]
 rfl
theorem mk_mark{t:Int}{P:V→Hp→Prop} :
  R.f (makeV K (callF K (n+3) hd) 460 [mkV t] [] H) P X=P (.ref H.length) (H++[markO t]):=by
 rw [F.m_460]
 refine det (n_mkM ?_)
 rw [F.u_457]
 simp (maxDischargeDepth:=14) [mkV,↓n_bind,↓n_K,↓n_Kn,↓n_pure,↓n_tupT,↓n_setZ F.a_460_tokens,put_le]
 rfl
theorem mk_ins{g it:V}{P:V→Hp→Prop} :
  R.f (makeV K (callF K (n+3) hd) 481 [.int 3,.int 7,.int 0,g,.int 0,it] [] H) P X=P (.ref H.length) (H++[insO g it]):=by
 rw [F.m_481]
 refine det (n_mkM ?_)
 rw [F.u_478]
 simp (maxDischargeDepth:=14) [↓n_bind,↓n_K,↓n_Kn,↓n_pure,↓n_asB,↓n_not,↓n_ifb,n_iF,Bool.not_true,↓f_whole F,↓f_cd F,↓f_cn F,↓n_setZ F.a_481_number,↓n_setZ F.a_481_size,↓n_setZ F.a_481_depth,↓n_setZ F.a_481_top,↓n_setZ F.a_481_cost,↓n_setZ F.a_481_items,put_le]
 rfl
theorem mk_spec{P:V→Hp→Prop} :
  R.f (makeV K (callF K (n+3) hd) 502 [.byt #[118]] [] H) P X=P (.ref H.length) (H++[specO]):=by
 rw [F.m_502]
 refine det (n_mkM ?_)
 simp only [F.u_499]
 simp only [↓n_bind]
 rw [show toSrc (.byt #[118])=(M.pure (.byt #[118]):M Src) from rfl,n_pure,n_K,for_some (n:=199) (v:=.int 118) rfl]
 simp [↓n_bind,↓n_K,↓n_pure,↓n_asB,↓n_not,↓n_ifb,n_iF,Bool.not_true,↓n_jpE,↓n_lk (lk_self _ _ _),↓f_whole F]
 rw [for_none (n:=198) rfl]
 simp only [↓n_bind]
 rw [n_lk (v:=.byt #[118]) rfl]
 simp only [↓n_K,↓n_pure]
 rw [show bcall (.type "bytes") [.byt #[118]]=(M.pure (.byt #[118]):M V) from rfl]
 simp only [↓n_bind,↓n_K,↓n_pure]
 rw [n_lk (v:=.ref H.length) rfl,n_K,n_bind,n_setZ F.a_502_octets (by simp)]
 (repeat' apply And.intro)<;>first | trivial | rfl
theorem mk_rule{h d:Option Int}(hh:h=none∨h=some 3)(hdd:d=none∨d=some 2){P:V→Hp→Prop} :
  R.f (makeV K (callF K (n+3) hd) 375 [.none,oV h,oV d] [] H) P X=P (.ref H.length) (H++[ruleO h d]):=by
 rw [F.m_375]
 refine det (n_mkM ?_)
 simp only [F.u_372]
 simp only [↓n_bind]
 have step:∀{v:Option Int}{ρ:Lo}{k:Lo→M Fl}{H:Hp}{P:Fl→Hp→Prop}{X:Addr→Hp→Prop},(v=none∨∃ i,v=some i∧-1073741823≤i∧i≤1073741823)→R.f (k (put "size" (oV v) ρ) H) P X→
   R.f (jp (λ ρ5=>k ρ5) (λ k4=>M.bind (M.bind (ofO (lk "size" (put "size" (oV v) ρ))) λ t7=>M.bind (cmpV .IsNot t7 V.none) λ r8=>M.pure (V.bool r8)) λ t6=>M.bind (asB t6) λ b9=>if b9 then
    M.bind (M.bind (M.bind (ofO (lk "size" (put "size" (oV v) ρ))) λ t11=>M.pure [t11]) λ vs10=>callF K (n+2) hd 126 vs10 []) λ _=>k4 (put "size" (oV v) ρ) else k4 (put "size" (oV v) ρ)) H) P X:=by
  intro v ρ k H P X hv hk
  rcases hv with rfl | ⟨i,rfl,hi⟩
  ·simpa [↓n_bind,↓n_K,↓n_pure,↓n_asB,↓n_ifb,n_iF,Bool.not_true,↓n_jpE,↓n_lk (lk_self _ _ _),↓n_isnot,isN_n,isN_i,isN_r,oV,show notSta V.none=true from rfl] using hk
  ·simpa [↓n_bind,↓n_K,↓n_pure,↓n_asB,↓n_ifb,n_iT,Bool.not_false,↓n_jpE,↓n_lk (lk_self _ _ _),↓n_isnot,isN_n,isN_i,isN_r,oV,show notSta (V.int i)=true from rfl,↓f_cd F hi] using hk
 rw [show toSrc (.tup [.none,oV h,oV d])=(M.pure (.tup [.none,oV h,oV d]):M Src) from rfl,n_pure,n_K,for_some (n:=199) (v:=oV none) rfl]
 refine step (.inl rfl) ?_
 rw [for_some (n:=198) (v:=oV h) rfl]
 refine step (by rcases hh with rfl | rfl<;>simp) ?_
 rw [for_some (n:=197) (v:=oV d) rfl]
 refine step (by rcases hdd with rfl | rfl<;>simp) ?_
 rw [for_none (n:=196) rfl]
 simp only [↓n_bind]
 rw [n_lk (v:=.none) rfl,n_K,n_bind,n_lk (v:=.ref H.length) rfl,n_K,n_bind,n_setZ F.a_375_width (by simp),n_K,n_bind,n_lk (v:=oV h) rfl,n_K,n_bind,n_lk (v:=.ref H.length) rfl,n_K,n_bind,n_setZ F.a_375_height (put_le (by simp)),n_K,n_bind,n_lk (v:=oV d) rfl,n_K,n_bind,n_lk (v:=.ref H.length) rfl,n_K,n_bind,n_setZ F.a_375_depth (put_le (put_le (by simp)))]
 (repeat' apply And.intro)<;>first | trivial | rfl
end
end VW.Internal
end
section
open PySem PySem.W PySem.SeqAt
set_option backward.match.sparseCases false
set_option maxRecDepth 100000
namespace VW.Internal
open VS.Internal
theorem n_comp{β:Type}{H:Hp}{src:Src}{f:V→M (Option V)}{Rl:V→β→Prop}{Q:β→Option V→Prop}{P:List V→Hp→Prop}{X:Addr→Hp→Prop} :
  ∀{xs:List V}{bs:List β} (a:All2 Rl xs bs) (k m:Nat) (H':Hp),Pre H H'→xs.length<m→(∀ j H'',Pre H H''→itemAt src (k+j) H''=some xs[j]?)→
   (∀ v b,b∈bs→Rl v b→∀ H',Pre H H'→R.f (f v H') (λ r H''=>Q b r∧Pre H' H'') (λ _ _=>False))→
   (∀ rs H'',Pre H' H''→All2 Q bs rs→P (rs.filterMap id) H'')→R.f (compLoop m src k f H') P X:=by
 intro xs bs a
 induction a generalizing P with
 | nil=>
  intro k m H' hp hm hit _ hP
  cases m with
  | zero=>simp at hm
  | succ m=>
   have h0:=hit 0 H' hp
   simp only [Nat.add_zero] at h0
   refine Eq.mpr (n_turn h0) ?_
   exact hP [] H' (.refl _) .nil
 | @cons v b vs bs h t ih=>
  intro k m H' hp hm hit hf hP
  cases m with
  | zero=>simp at hm
  | succ m=>
   have h0:=hit 0 H' hp
   simp only [Nat.add_zero] at h0
   refine Eq.mpr (n_turn h0) ?_
   show R.f (M.bind (noexc (f v)) _ H') P X
   refine n_noexc ((hf v b (.head _) h H' hp).mono (λ r H1 q=>?_) λ _ _ q=>q)
   simp only [n_bnd]
   refine ih (k+1) m H1 (hp.trans q.2) (by simp at hm;omega) (λ j H'' hp''=>?_) (λ v b hb=>hf v b (.tail _ hb)) λ rs H2 hp2 hQ=>?_
   ·have:=hit (j+1) H'' hp''
    rw [show k+1+j=k+(j+1) by lia,this]
    rfl
   ·simp only [n_pure]
    have:=hP (r::rs) H2 (q.2.trans hp2) (.cons q.1 hQ)
    cases r with
    | none=>exact this
    | some x=>exact this
theorem all2_map{β:Type}{φ:β→Option V}{bs:List β}{rs:List (Option V)}(h:All2 (λ b r=>r=φ b) bs rs):rs.filterMap id=bs.filterMap φ:=by
 induction h with
 | nil=>rfl
 | cons h _ ih=>
  subst h
  simp only [List.filterMap_cons,ih,id]
theorem all2_range{n:Nat}:All2 (λ(v:V) (j:Nat)=>v = .int (j:Int)) ((List.range n).map λ(j:Nat)=>V.int (j:Int)) (List.range n):=by
 generalize List.range n=l
 induction l with
 | nil=>exact .nil
 | cons a r ih=>exact .cons rfl ih
section
variable{β:Type}{H:Hp}{X:Addr→Hp→Prop}{P:β→Hp→Prop}{f:V→M (Option V)}{g:List V→M β}
theorem n_lcQ{i:Nat}{vs:List V}{nds:List Nd}(h:H[i]? = some (.list vs))(a:All2 (NdAt H) vs nds)(hl:nds.length<200){Q:Nd→Option V→Prop}
  (hf:∀ v nd,nd∈nds→∀ H',Pre H H'→NdAt H' v nd→R.f (f v H') (λ r H''=>(NdAt H v nd→Q nd r)∧Pre H' H'') (λ _ _=>False))
  (hP:∀ rs H',Pre H H'→All2 Q nds rs→Kx g P X (rs.filterMap id) H') :
  R.f (toSrc (.ref i) H) (Kx (λ src=>M.bind (compLoop 200 src 0 f) g) P X) X:=by
 rw [n_src h]
 refine n_comp (Q:=Q) a 0 200 H (.refl _) (by rw [a.length];exact hl) (λ j H'' hp=>?_) (λ v nd hm hn H' hp=>(hf v nd hm H' hp (hn.mono hp)).mono (λ r H'' q=>⟨q.1 hn,q.2⟩) λ _ _ q=>q) λ rs H' hp hQ=>?_
 ·rw [Nat.zero_add];exact at_lst (hp _ _ h)
 ·exact hP rs H' hp hQ
theorem n_lcN{i:Nat}{vs:List V}{nds:List Nd}(h:H[i]? = some (.list vs))(a:All2 (NdAt H) vs nds)(hl:nds.length<200)(φ:Nd→Option V)
  (hf:∀ v nd,nd∈nds→∀ H',Pre H H'→NdAt H' v nd→R.f (f v H') (λ r H''=>r=φ nd∧Pre H' H'') (λ _ _=>False))
  (hP:∀ H',Pre H H'→Kx g P X (nds.filterMap φ) H') :
  R.f (toSrc (.ref i) H) (Kx (λ src=>M.bind (compLoop 200 src 0 f) g) P X) X:=
 n_lcQ h a hl (Q:=λ nd r=>r=φ nd) (λ v nd hm H' hp hn=>(hf v nd hm H' hp hn).mono (λ r H'' q=>⟨λ _=>q.1,q.2⟩) λ _ _ q=>q) λ rs H' hp hQ=>by
  rw [all2_map hQ];exact hP H' hp
theorem n_lcR{n:Nat}(hn:n<200)(φ:Nat→Option V)
  (hf:∀ j,j<n→∀ H',Pre H H'→R.f (f (.int (j:Int)) H') (λ r H''=>r=φ j∧Pre H' H'') (λ _ _=>False))
  (hP:∀ H',Pre H H'→Kx g P X ((List.range n).filterMap φ) H') :
  R.f (toSrc (.rng (n:Int)) H) (Kx (λ src=>M.bind (compLoop 200 src 0 f) g) P X) X:=by
 rw [n_srcR (by lia)]
 refine n_comp (Q:=λ j r=>r=φ j) all2_range 0 200 H (.refl _) (by simp;omega) (λ j H'' hp=>?_) (λ v j hm hv H' hp=>by
  subst hv
  exact hf j (by simpa using hm) H' hp) λ rs H' hp hQ=>?_
 ·rw [Nat.zero_add];exact at_range
 ·rw [all2_map hQ]
  exact hP H' hp
theorem n_lcL{γ:Type}{i:Nat}{vs:List V}{bs:List γ}{Rl:V→γ→Prop}(h:H[i]? = some (.list vs))(a:All2 Rl vs bs)(hl:bs.length<200)(φ:γ→Option V)
  (hf:∀ v b,b∈bs→Rl v b→∀ H',Pre H H'→R.f (f v H') (λ r H''=>r=φ b∧Pre H' H'') (λ _ _=>False))
  (hP:∀ H',Pre H H'→Kx g P X (bs.filterMap φ) H') :
  R.f (toSrc (.ref i) H) (Kx (λ src=>M.bind (compLoop 200 src 0 f) g) P X) X:=by
 rw [n_src h]
 refine n_comp (Q:=λ b r=>r=φ b) a 0 200 H (.refl _) (by rw [a.length];exact hl) (λ j H'' hp=>?_) hf λ rs H' hp hQ=>?_
 ·rw [Nat.zero_add];exact at_lst (hp _ _ h)
 ·rw [all2_map hQ]
  exact hP H' hp
theorem n_lcT{γ:Type}{vs:List V}{bs:List γ}{Rl:V→γ→Prop}(a:All2 Rl vs bs)(hl:bs.length<200)(φ:γ→Option V)
  (hf:∀ v b,b∈bs→Rl v b→∀ H',Pre H H'→R.f (f v H') (λ r H''=>r=φ b∧Pre H' H'') (λ _ _=>False))
  (hP:∀ H',Pre H H'→Kx g P X (bs.filterMap φ) H') :
  R.f (toSrc (.tup vs) H) (Kx (λ src=>M.bind (compLoop 200 src 0 f) g) P X) X:=by
 simp only [show toSrc (.tup vs)=(M.pure (.tup vs):M Src) from rfl,n_pure]
 refine n_comp (Q:=λ b r=>r=φ b) a 0 200 H (.refl _) (by rw [a.length];exact hl) (λ j H'' hp=>?_) hf λ rs H' hp hQ=>?_
 ·rw [Nat.zero_add];rfl
 ·rw [all2_map hQ]
  exact hP H' hp
end
noncomputable def Nd.acr:Nd→Int
 | .box _ w _ _ sh=>w+sh
 | _=>0
noncomputable def Nd.tall:Nd→Int
 | .box _ _ h d _=>h+d
 | .rule h d=>h.getD 0+d.getD 0
 | .skip g _=>g.w
 | .kern w=>w
 | _=>0
noncomputable def prt(g:Gl):V:=.tup [.int g.w,.int g.s,.int g.so,.int g.k,.int g.ko]
noncomputable def oT:Option Int→V
 | none=>.tup []
 | some i=>.tup [.int i]
noncomputable def dsc:Nd→V
 | .box k w h d sh=>.tup [.int k,.int w,.int h,.int d,.int sh,.int 0,.int 0,r01,.tup []]
 | .rule h d=>.tup [.int 4,.tup [],oT h,oT d]
 | .skip g s=>.tup [.int 6,prt g,.int s,.tup []]
 | .kern w=>.tup [.int 5,.int w,.int 1]
 | .pen v=>.tup [.int 7,.int v]
 | .mark t=>.tup [.int 9,mkV t]
 | .ins=>.tup [.int 10,.int 3,.int 7,.int 0,prt ⟨0,0,0,0,0⟩,.int 0,.tup []]
 | .spec=>.tup [.int 13,.tup [.int 118]]
theorem sN:notSta V.none=true:=rfl
theorem sI{i:Int}:notSta (V.int i)=true:=rfl
theorem sR{i:Nat}:notSta (V.ref i)=true:=rfl
theorem sT{i:List V}:notSta (V.tup i)=true:=rfl
theorem sB{i:Array UInt8}:notSta (V.byt i)=true:=rfl
section
variable{K:Frag}(F:KF K){H:Hp}{X:Addr→Hp→Prop}{n:Nat}{hd:Bool}
include F
theorem f_width{v:V}{nd:Nd}(h:NdAt H v nd)(hs:nd.std=false)(hk:nd.kind≠5)(hg:nd.kind≠6){P:V→Hp→Prop}:R.f (callF K (n+1) hd 537 [v] [] H) P X=P (.int 0) H:=by
 refine det ?_
 rw [F.u_537]
 have e:=λ{P:V→Hp→Prop}{X:Addr→Hp→Prop}=>nd_kind F (X:=X) h (P:=P)
 cases nd with
 | box=>cases hs
 | rule=>cases hs
 | kern=>exact absurd rfl hk
 | skip=>exact absurd rfl hg
 | _=>exact Eq.mpr e ⟨rfl,rfl⟩
theorem f_across{v:V}{nd:Nd}(ho:nd.ok)(h:NdAt H v nd){P:V→Hp→Prop}:R.f (callF K (n+2) hd 590 [v] [] H) P X=P (.int nd.acr) H:=by
 refine det ?_
 rw [F.u_590]
 have e:=λ{P:V→Hp→Prop}{X:Addr→Hp→Prop}=>nd_kind F (X:=X) h (P:=P)
 cases nd with
 | box k w hh d sh=>
  obtain⟨i,rfl,j,h1,h2⟩:=h
  rcases ho.1 with rfl | rfl<;>simp [↓n_bind,↓n_K,↓n_Kr,↓n_pure,↓n_asB,↓n_add,↓n_eqI,↓n_ifb,n_iT,n_iF,↓e,Nd.kind,↓bx_width F h1,↓bx_shift F h1,Nd.acr]
 | rule a b=>
  obtain⟨i,rfl,h1⟩:=id h
  simp [↓n_bind,↓n_K,↓n_pure,↓n_asB,↓n_eqI,↓n_ifb,n_iF,↓e,Nd.kind,Nd.acr]
  rw [F.u_537]
  simp [↓n_bind,↓n_K,↓n_Kr,↓n_pure,↓n_asB,↓n_eqI,↓n_ifb,n_iT,n_iF,↓e,Nd.kind,↓ru_w F h1,↓n_is sN,isN_n,isN_i,isN_r]
 | skip g s=>
  obtain⟨i,rfl,u,h1,h2⟩:=id h
  simp [↓n_bind,↓n_K,↓n_Kr,↓n_pure,↓n_asB,↓n_eqI,↓n_ifb,n_iT,n_iF,↓e,Nd.kind,↓sk_l F h1,↓n_is sN,isN_n,isN_i,isN_r,Nd.acr]
 | kern w=>simp [↓n_bind,↓n_K,↓n_Kr,↓n_pure,↓n_asB,↓n_eqI,↓n_ifb,n_iT,n_iF,↓e,Nd.kind,Nd.acr]
 | _=>simp [↓n_bind,↓n_K,↓n_Kr,↓n_pure,↓n_asB,↓n_eqI,↓n_ifb,n_iF,↓e,Nd.kind,Nd.acr,↓f_width F h rfl (by simp [Nd.kind]) (by simp [Nd.kind])]
theorem f_height{v:V}{nd:Nd}(ho:nd.ok)(hs:nd.std=true)(h:NdAt H v nd){P:V→Hp→Prop}:R.f (callF K (n+1) hd 542 [v] [] H) P X=P (.int (nd.hgt.getD 0)) H:=by
 refine det ?_
 rw [F.u_542]
 have e:=λ{P:V→Hp→Prop}{X:Addr→Hp→Prop}=>nd_kind F (X:=X) h (P:=P)
 have e2:=λ{P:V→Hp→Prop}{X:Addr→Hp→Prop}=>nd_height F (X:=X) h hs (P:=P)
 cases nd with
 | box k w hh d sh=>
  rcases ho.1 with rfl | rfl<;>simp [↓n_bind,↓n_K,↓n_Kr,↓n_pure,↓n_asB,↓n_eqI,↓n_ifb,n_iT,n_iF,↓e,↓e2,Nd.kind,Nd.hgt,oV]
 | rule a b=>cases a<;>simp [↓n_bind,↓n_K,↓n_Kr,↓n_pure,↓n_asB,↓n_eqI,↓n_ifb,n_iT,n_iF,↓e,↓e2,Nd.kind,Nd.hgt,oV,↓n_is sN,↓n_is sI,isN_n,isN_i]
 | _=>cases hs
theorem f_depth{v:V}{nd:Nd}(ho:nd.ok)(hs:nd.std=true)(h:NdAt H v nd){P:V→Hp→Prop}:R.f (callF K (n+1) hd 547 [v] [] H) P X=P (.int (nd.dep.getD 0)) H:=by
 refine det ?_
 rw [F.u_547]
 have e:=λ{P:V→Hp→Prop}{X:Addr→Hp→Prop}=>nd_kind F (X:=X) h (P:=P)
 have e2:=λ{P:V→Hp→Prop}{X:Addr→Hp→Prop}=>nd_depth F (X:=X) h hs (P:=P)
 cases nd with
 | box k w hh d sh=>
  rcases ho.1 with rfl | rfl<;>simp [↓n_bind,↓n_K,↓n_Kr,↓n_pure,↓n_asB,↓n_eqI,↓n_ifb,n_iT,n_iF,↓e,↓e2,Nd.kind,Nd.dep,oV]
 | rule a b=>cases b<;>simp [↓n_bind,↓n_K,↓n_Kr,↓n_pure,↓n_asB,↓n_eqI,↓n_ifb,n_iT,n_iF,↓e,↓e2,Nd.kind,Nd.dep,oV,↓n_is sN,↓n_is sI,isN_n,isN_i]
 | _=>cases hs
theorem f_ahead{v:V}{nd:Nd}(h:NdAt H v nd){P:V→Hp→Prop}:R.f (callF K (n+2) hd 575 [v] [] H) P X=P (.bool (nd.kind≠6&&(nd.kind≠5&&(nd.kind≠7&&nd.kind≠12)))) H:=by
 refine det ?_
 rw [F.u_575]
 have e:=λ{P:V→Hp→Prop}{X:Addr→Hp→Prop}=>nd_kind F (X:=X) h (P:=P)
 simp only [↓n_bind]
 rw [F.u_568]
 generalize nd.kind=k at e ⊢
 simp only [↓n_bind,↓n_K,↓n_Kr,↓n_pure,↓n_not,↓n_eqI,↓n_ifb,n_iD,Bool.not_true,↓e]
 by_cases h1:k=6<;>by_cases h2:k=5<;>by_cases h3:k=7<;>by_cases h4:k=12<;>simp [h1,h2,h3,h4]
theorem f_cdep{i:Int}(hi:i≤60){P:V→Hp→Prop}:R.f (callF K (n+1) hd 513 [.int i] [] H) P X=P .none H:=by
 refine det ?_
 rw [F.u_513]
 simp [↓n_bind,↓n_K,↓n_Kn,↓n_pure,↓n_gt,↓n_ifb,n_iD]
 lia
theorem f_dnil{j:Nat}(h:H[j]? = some (.list [])){i:Int}{P:V→Hp→Prop}(hP:∀ H',Pre H H'→P (.tup []) H'):R.f (callF K (n+1) hd 532 [.ref j,.int i] [] H) P X:=by
 rw [F.u_532]
 simp only [↓n_bind]
 refine n_lcN h .nil (by simp) (λ _=>none) (λ v nd hm=>by cases hm) λ H' hp=>?_
 simp only [↓n_bind,↓n_K,↓n_alloc]
 rw [n_tupL at_last (by simp)]
 exact hP _ (hp.app' _)
theorem f_drest{v:V}{nd:Nd}(hk:nd = .ins∨nd = .spec)(h:NdAt H v nd){i:Int}{P:V→Hp→Prop}(hP:∀ H',Pre H H'→P (dsc nd) H'):R.f (callF K (n+2) hd 520 [v,.int i] [] H) P X:=by
 rw [F.u_520]
 have e:=λ{P:V→Hp→Prop}{X:Addr→Hp→Prop}=>nd_kind F (X:=X) h (P:=P)
 rcases hk with rfl | rfl
 ·obtain⟨i,rfl,u,j,h1,⟨k,rfl,h2⟩,h3⟩:=id h
  simp [↓n_bind,↓n_K,↓n_add,↓n_methC,↓n_eqI,↓n_ifb,n_iT,n_iF,↓e,Nd.kind,↓in_n F h1,↓in_s F h1,↓in_d F h1,↓in_t F h1 sR,↓in_c F h1,↓in_i F h1 sR,↓n_methF h2 F.t_250_parts rfl,↓f_parts F h2]
  exact f_dnil F h3 λ H' hp=>hP _ hp
 ·obtain⟨i,rfl,h1⟩:=id h
  have eb:∀{P:V→Hp→Prop}{X:Addr→Hp→Prop}{H:Hp},R.f (bcall (.type "tuple") [.byt #[118]] H) P X=P (.tup [.int 118]) H:=rfl
  simp [↓n_bind,↓n_K,↓n_Kr,↓n_pure,↓n_eqI,↓n_ifb,n_iT,n_iF,↓e,Nd.kind,↓sp_o F h1,↓eb]
  exact hP _ (.refl _)
theorem f_desc{v:V}{nd:Nd}(ho:nd.ok)(h:NdAt H v nd){i:Int}(hi:i≤59){P:V→Hp→Prop}(hP:∀ H',Pre H H'→P (dsc nd) H'):R.f (callF K (n+3) hd 526 [v,.int i] [] H) P X:=by
 rw [F.u_526]
 have e:=λ{P:V→Hp→Prop}{X:Addr→Hp→Prop}=>nd_kind F (X:=X) h (P:=P)
 have hi':i≤60:=Int.le_trans hi (by decide)
 cases nd with
 | box k w hh d sh=>
  obtain⟨i,rfl,j,h1,h2⟩:=id h
  have key:(k=2∨k=3):=ho.1
  rcases key with rfl | rfl
  all_goals
   simp [↓n_bind,↓n_K,↓n_pure,↓n_asB,↓n_add,↓n_eqI,↓n_ifb,n_iT,n_iF,↓f_cdep F hi',↓e,Nd.kind,↓bx_width F h1,↓bx_height F h1,↓bx_depth F h1,↓bx_shift F h1,↓bx_sign F h1,↓bx_order F h1,↓bx_items F h1 sR,↓bx_ratio F h1 sT,r01,↓n_addT]
   exact f_dnil F h2 λ H' hp=>hP _ hp
 | rule a b=>
  obtain⟨i,rfl,h1⟩:=id h
  have eh:=λ{P:V→Hp→Prop}{X:Addr→Hp→Prop}=>nd_height F (X:=X) h rfl (P:=P)
  have ed:=λ{P:V→Hp→Prop}{X:Addr→Hp→Prop}=>nd_depth F (X:=X) h rfl (P:=P)
  simp [↓n_bind,↓n_K,↓n_pure,↓n_asB,↓n_eqI,↓n_ifb,n_iT,n_iF,↓f_cdep F hi',↓e,Nd.kind,↓ru_w F h1,↓eh,↓ed,Nd.hgt,Nd.dep]
  refine n_lcT (Rl:=λ v o=>v=oV o) (bs:=[none,a,b]) (.cons rfl (.cons rfl (.cons rfl .nil))) (by simp) (λ o=>some (oT o)) (λ v o _ hv H' hp=>?_) λ H' hp=>?_
  ·subst hv
   cases o<;>simp [↓n_bind,↓n_K,↓n_pure,↓n_ifb,n_iT,n_iF,↓n_is sN,↓n_is sI,oV,isN_n,isN_i,oT,Pre.refl]
  ·simp only [↓n_bind,↓n_K,↓n_alloc]
   rw [n_tupL at_last (by simp)]
   simp [↓n_bind,↓n_K,↓n_Kr,↓n_pure,↓n_addT]
   exact hP _ (hp.app' _)
 | skip g s=>
  obtain⟨i,rfl,u,h1,k,rfl,h2⟩:=id h
  simp [↓n_bind,↓n_K,↓n_Kr,↓n_pure,↓n_asB,↓n_methC,↓n_eqI,↓n_ifb,n_iT,n_iF,↓f_cdep F hi',↓e,Nd.kind,↓sk_g F h1 sR,↓sk_s F h1,↓sk_l F h1,↓n_is sN,isN_n,↓n_methF h2 F.t_250_parts rfl,↓f_parts F h2]
  exact hP _ (.refl _)
 | kern w=>
  obtain⟨i,rfl,h1⟩:=id h
  refine Eq.mpr (f_cdep F hi') ?_
  refine Eq.mpr e ?_
  refine Eq.mpr (kn_w F h1) ?_
  refine Eq.mpr (kn_s F h1) ?_
  exact hP _ (.refl _)
 | pen w=>
  obtain⟨i,rfl,h1⟩:=id h
  refine Eq.mpr (f_cdep F hi') ?_
  refine Eq.mpr e ?_
  refine Eq.mpr (pe_v F h1) ?_
  exact hP _ (.refl _)
 | mark w=>
  obtain⟨i,rfl,h1⟩:=id h
  refine Eq.mpr (f_cdep F hi') ?_
  refine Eq.mpr e ?_
  refine Eq.mpr (ma_t F h1) ?_
  exact hP _ (.refl _)
 | ins=>
  refine Eq.mpr (f_cdep F hi') ?_
  refine Eq.mpr e ?_
  exact f_drest F (.inl rfl) h λ H' hp=>hP H' hp
 | spec=>
  refine Eq.mpr (f_cdep F hi') ?_
  refine Eq.mpr e ?_
  exact f_drest F (.inr rfl) h λ H' hp=>hP H' hp
theorem f_dlist{i:Nat}{vs:List V}{nds:List Nd}(h:H[i]? = some (.list vs))(a:All2 (NdAt H) vs nds)(ho:∀ nd∈nds,nd.ok)(hl:nds.length<200){d:Int}(hd':d≤59){P:V→Hp→Prop}(hP:∀ H',Pre H H'→P (.tup (nds.map dsc)) H') :
  R.f (callF K (n+4) hd 532 [.ref i,.int d] [] H) P X:=by
 rw [F.u_532]
 simp only [↓n_bind]
 refine n_lcN h a hl (λ nd=>some (dsc nd)) (λ v nd hm H' hp hn=>?_) λ H' hp=>?_
 ·simp only [↓n_bind]
  exact f_desc F (ho nd hm) hn hd' λ H'' hp'=>⟨rfl,hp'⟩
 ·simp only [↓n_bind,↓n_K,↓n_alloc]
  rw [n_tupL at_last (by simp;lia)]
  simp only [List.filterMap_eq_map',Function.comp_def]
  exact hP _ (hp.app' _)
end
end VW.Internal
end
section
open PySem PySem.W PySem.SeqAt
set_option backward.match.sparseCases false
set_option maxRecDepth 100000
namespace VW.Internal
open VS.Internal
noncomputable def sl(f:Int→Int):O:=.list [.int (f 0),.int (f 1),.int (f 2),.int (f 3)]
noncomputable def addAt(o x:Int)(f:Int→Int):Int→Int:=λ y=>if y=o then f y+x else f y
noncomputable def AWFUL:Int:=1073741823
theorem ord8{o:Int}(h:0≤o∧o<8):o=0∨o=1∨o=2∨o=3∨o=4∨o=5∨o=6∨o=7:=by
 obtain⟨n,rfl⟩:=Int.eq_ofNat_of_zero_le h.1
 exact(show ∀ n:Nat,n<8→((n:Int)=0∨(n:Int)=1∨(n:Int)=2∨(n:Int)=3∨(n:Int)=4∨(n:Int)=5∨(n:Int)=6∨(n:Int)=7) by decide) n (Int.ofNat_lt.mp h.2)
theorem ord4{o:Int}(h:0≤o∧o≤3):o=0∨o=1∨o=2∨o=3:=by
 obtain⟨n,rfl⟩:=Int.eq_ofNat_of_zero_le h.1
 exact(show ∀ n:Nat,n<4→((n:Int)=0∨(n:Int)=1∨(n:Int)=2∨(n:Int)=3) by decide) n (Nat.lt_succ_of_le (Int.ofNat_le.mp h.2))
theorem sl_get{f:Int→Int}{o:Int}(h:0≤o∧o≤3):∃ j,idx o 4=some j∧[V.int (f 0),V.int (f 1),V.int (f 2),V.int (f 3)][j]? = some (V.int (f o)):=by
 rcases ord4 h with rfl | rfl | rfl | rfl
 ·exact⟨0,rfl,rfl⟩
 ·exact⟨1,rfl,rfl⟩
 ·exact⟨2,rfl,rfl⟩
 ·exact⟨3,rfl,rfl⟩
theorem sl_set{f:Int→Int}{o x:Int}(h:0≤o∧o≤3):O.list ([V.int (f 0),V.int (f 1),V.int (f 2),V.int (f 3)].set o.toNat (V.int (f o+x)))=sl (addAt o x f):=by
 rcases ord4 h with rfl | rfl | rfl | rfl<;>rfl
theorem n_slget{H:Hp}{s:Nat}{f:Int→Int}{X:Addr→Hp→Prop}(e:H[s]? = some (sl f)){o:Int}(h:0≤o∧o≤3){P:V→Hp→Prop}:R.f (getI (.ref s) (.int o) H) P X=P (.int (f o)) H:=n_getL e (by simp) (sl_get h)
theorem n_slset{H:Hp}{s:Nat}{f:Int→Int}{X:Addr→Hp→Prop}(e:H[s]? = some (sl f)){o x:Int}(h:0≤o∧o≤3){P:Unit→Hp→Prop}:R.f (setI (.ref s) (.int o) (.int (f o+x)) H) P X=P () (H.set s (sl (addAt o x f))):=by
 rw [n_setL (xs:=[.int (f 0),.int (f 1),.int (f 2),.int (f 3)]) e (by simp) h.1 (Int.lt_of_le_of_lt h.2 (show(3:Int)<4 by decide)),sl_set h]
theorem set_other{H:Hp}{i j:Nat}{o o':O}(h:H[j]? = some o')(hn:i≠j):(H.set i o)[j]? = some o':=by
 rw [List.getElem?_set_ne hn];exact h
structure Col(H0 H:Hp)(c s:Nat)(a b:Int)(f:Int→Int)(k:Int):Prop where
 p:Pre H0 H
 hc:H0.length≤c
 hs:H0.length≤s
 ec:H[c]? = some (colO a b (.ref s) k)
 es:H[s]? = some (sl f)
namespace Col
variable{H0 H:Hp}{c s:Nat}{a b:Int}{f:Int→Int}{k:Int}
theorem ne(C:Col H0 H c s a b f k):c≠s:=λ e=>by
 have:=C.ec.symm.trans (e▸C.es)
 cases this
theorem setC(C:Col H0 H c s a b f k)(a' b' k':Int):Col H0 (H.set c (colO a' b' (.ref s) k')) c s a' b' f k':=
 ⟨C.p.set C.hc,C.hc,C.hs,set_at C.ec,set_other C.es C.ne⟩
theorem setS(C:Col H0 H c s a b f k)(f':Int→Int):Col H0 (H.set s (sl f')) c s a b f' k:=
 ⟨C.p.set C.hs,C.hc,C.hs,set_other C.ec C.ne.symm,set_at C.es⟩
theorem pre{H':Hp}(C:Col H0 H c s a b f k)(p:Pre H H'):Col H0 H' c s a b f k:=⟨C.p.trans p,C.hc,C.hs,p _ _ C.ec,p _ _ C.es⟩
end Col
noncomputable def ccost(a:Int)(f:Int→Int)(k goal:Int):Int:=if a<goal then(if f 1≠0∨f 2≠0∨f 3≠0 then 0 else vbad (goal-a) (f 0)) else if k<a-goal then AWFUL else vbad (a-goal) k
noncomputable def chere(a:Int)(f:Int→Int)(k goal pen:Int):Int:=if ccost a f k goal=AWFUL then AWFUL else if pen≤-10000 then pen else if ccost a f k goal<10000 then ccost a f k goal+pen else 100000
section
variable{K:Frag}(F:KF K){H0 H:Hp}{X:Addr→Hp→Prop}{n:Nat}{hd:Bool}{c s:Nat}{a b:Int}{f:Int→Int}{k:Int}
include F
theorem mk_col{P:V→Hp→Prop}(hP:∀ H' c s,Col H H' c s 0 0 (λ _=>0) 0→P (.ref c) H'):R.f (makeV K (callF K (n+3) hd) 686 [] [] H) P X:=by
 rw [F.m_686]
 refine n_mkM ?_
 rw [F.u_655]
 simp (maxDischargeDepth:=14) only [↓n_bind,↓n_K,↓n_alloc,↓n_setZ F.a_686_height,↓n_setZ F.a_686_depth,put_le,List.length_nil,Nat.zero_le,true_and]
 have e1:(H++[O.inst 686 (put "depth" (.int 0) (put "height" (.int 0) []))]++[O.list [.int 0,.int 0,.int 0,.int 0]])[H.length]? = some (O.inst 686 (put "depth" (.int 0) (put "height" (.int 0) []))):=by simp
 rw [n_set e1 F.a_686_stretch (by exact put_le (put_le (by simp))),n_K,n_bind,n_set (set_at e1) F.a_686_shrink (put_le (put_le (put_le (by simp))))]
 refine⟨rfl,?_⟩
 refine hP _ H.length (H.length+1) ⟨?_,Nat.le_refl _,Nat.le_succ _,?_,?_⟩
 ·exact((Pre.app' (Pre.app _ _) _).set (Nat.le_refl _)).set (Nat.le_refl _)
 ·rw [set_at (set_at e1)]
  simp;rfl
 ·rw [List.getElem?_set_ne (Nat.ne_of_lt (Nat.lt_succ_self H.length)),List.getElem?_set_ne (Nat.ne_of_lt (Nat.lt_succ_self H.length))]
  simp;rfl
theorem Co_h(C:Col H0 H c s a b f k){x:Int}{P:Unit→Hp→Prop}(hP:∀ H',Col H0 H' c s x b f k→P () H'):R.f (setA K (.ref c) "height" (.int x) H) P X:=by
 rw [co_seth F C.ec];exact hP _ (C.setC x b k)
theorem Co_d(C:Col H0 H c s a b f k){x:Int}{P:Unit→Hp→Prop}(hP:∀ H',Col H0 H' c s a x f k→P () H'):R.f (setA K (.ref c) "depth" (.int x) H) P X:=by
 rw [co_setd F C.ec];exact hP _ (C.setC a x k)
theorem Co_k(C:Col H0 H c s a b f k){x:Int}{P:Unit→Hp→Prop}(hP:∀ H',Col H0 H' c s a b f x→P () H'):R.f (setA K (.ref c) "shrink" (.int x) H) P X:=by
 rw [co_setk F C.ec];exact hP _ (C.setC a b x)
theorem Co_s(C:Col H0 H c s a b f k){o x:Int}(h:0≤o∧o≤3){P:Unit→Hp→Prop}(hP:∀ H',Col H0 H' c s a b (addAt o x f) k→P () H'):R.f (setI (.ref s) (.int o) (.int (f o+x)) H) P X:=by
 rw [n_slset C.es h];exact hP _ (C.setS _)
theorem f_stand(C:Col H0 H c s a b f k){v:V}{nd:Nd}(h:NdAt H0 v nd)(hs:nd.std=true){P:V→Hp→Prop}(hP:∀ H',Col H0 H' c s (a+b+nd.hgt.getD 0) (nd.dep.getD 0) f k→P .none H') :
  R.f (callF K (n+1) hd 662 [.ref c,v] [] H) P X:=by
 rw [F.u_662]
 have eh:=λ{P:V→Hp→Prop}{X:Addr→Hp→Prop}=>nd_height F (X:=X) (h.mono C.p) hs (P:=P)
 have fin2:∀ H1,Col H0 H1 c s (a+b+nd.hgt.getD 0) b f k→R.f (getA K v "depth" H1) (Kx (c_662_1 K (.ref c) v) (Kf P) X) X:=λ H1 C1=>by
  have ed:=λ{P:V→Hp→Prop}{X:Addr→Hp→Prop}=>nd_depth F (X:=X) (h.mono C1.p) hs (P:=P)
  cases e2:nd.dep with
  | none=>
   rw [e2] at ed
   simp only [↓n_bind,↓n_K,↓n_pure,↓n_ifb,n_iT,↓ed,oV,↓n_is sN,isN_n,true_implies,Bool.true_eq_false,false_implies,and_true]
   exact Co_d F C1 λ H2 C2=>hP H2 (by rw [e2];exact C2)
  | some d=>
   rw [e2] at ed
   simp only [↓n_bind,↓n_K,↓n_ifb,n_iF,↓ed,oV,↓n_is sI,isN_i,true_implies,Bool.false_eq_true,false_implies,true_and]
   exact Co_d F C1 λ H2 C2=>hP H2 (by rw [e2];exact C2)
 cases e1:nd.hgt with
 | none=>
  rw [e1] at eh
  simp only [↓n_bind,↓n_K,↓n_pure,↓n_add,↓n_ifb,n_iT,↓co_h F C.ec,↓co_d F C.ec,↓eh,oV,↓n_is sN,isN_n,true_implies,Bool.true_eq_false,false_implies,and_true]
  refine Co_h F C λ H1 C1=>?_
  exact fin2 H1 (by rw [e1];exact C1)
 | some d=>
  rw [e1] at eh
  simp only [↓n_bind,↓n_K,↓n_add,↓n_ifb,n_iF,↓co_h F C.ec,↓co_d F C.ec,↓eh,oV,↓n_is sI,isN_i,true_implies,Bool.false_eq_true,false_implies,true_and]
  refine Co_h F C λ H1 C1=>?_
  exact fin2 H1 (by rw [e1];exact C1)
theorem f_keep(C:Col H0 H c s a b f k){m:Int}{P:V→Hp→Prop}(hP:∀ H',Col H0 H' c s (if m<b then a+b-m else a) (min b m) f k→P .none H') :
  R.f (callF K (n+1) hd 669 [.ref c,.int m] [] H) P X:=by
 rw [F.u_669]
 have C1:=C.setC (a+b-m) b k
 have C2:=C1.setC (a+b-m) m k
 by_cases hm:m<b
 ·have:=hP _ (by rw [if_pos hm,Int.min_eq_right (Int.le_of_lt hm)];exact C2)
  simpa [↓n_bind,↓n_K,↓n_Kn,↓n_pure,↓n_gt,↓n_add,↓n_sub,↓n_ifb,n_iT,↓co_h F C.ec,↓co_d F C.ec,hm,↓co_seth F C.ec,↓co_setd F C1.ec] using this
 ·have:=hP _ (by rw [if_neg hm,Int.min_eq_left (Int.not_lt.mp hm)];exact C)
  simpa [↓n_bind,↓n_K,↓n_Kn,↓n_pure,↓n_gt,↓n_ifb,n_iF,↓co_h F C.ec,↓co_d F C.ec,hm] using this
theorem f_flowK(C:Col H0 H c s a b f k){v:V}{w:Int}(h:NdAt H0 v (.kern w)){P:V→Hp→Prop}(hP:∀ H',Col H0 H' c s (a+b+w) 0 f k→P .none H') :
  R.f (callF K (n+1) hd 676 [.ref c,v] [] H) P X:=by
 rw [F.u_676]
 have e:=λ{P:V→Hp→Prop}{X:Addr→Hp→Prop}=>nd_kind F (X:=X) (h.mono C.p) (P:=P)
 obtain⟨i,rfl,h1⟩:=h.mono C.p
 have C1:=C.setC (a+b+w) b k
 have C2:=C1.setC (a+b+w) 0 k
 simpa [↓n_bind,↓n_K,↓n_Kn,↓n_pure,↓n_add,↓n_eqI,↓n_ifb,n_iT,n_iF,↓e,Nd.kind,↓kn_w F h1,↓co_h F C.ec,↓co_d F C.ec,↓co_seth F C.ec,↓co_setd F C1.ec] using hP _ C2
theorem f_flowX(C:Col H0 H c s a b f k){v:V}{g:Gl}{so:Int}(h:NdAt H0 v (.skip g so))(hg:g.ko≠0){P:V→Hp→Prop}(hX:X 80 H) :
  R.f (callF K (n+1) hd 676 [.ref c,v] [] H) P X:=by
 rw [F.u_676]
 have e:=λ{P:V→Hp→Prop}{X:Addr→Hp→Prop}=>nd_kind F (X:=X) (h.mono C.p) (P:=P)
 obtain⟨i,rfl,u,h1,j,rfl,h2⟩:=h.mono C.p
 simpa [↓n_bind,↓n_K,↓n_raise,↓n_eqI,↓n_neI,↓n_ifb,n_iT,n_iF,Bool.not_false,↓e,Nd.kind,↓sk_g F h1 sR,↓gl_w F h2,↓gl_ko F h2,hg] using hX
theorem f_flow(C:Col H0 H c s a b f k){v:V}{g:Gl}{so:Int}(h:NdAt H0 v (.skip g so))(hg:g.ko=0)(hso:0≤g.so∧g.so≤3){P:V→Hp→Prop}(hP:∀ H',Col H0 H' c s (a+b+g.w) 0 (addAt g.so g.s f) (k+g.k)→P .none H') :
  R.f (callF K (n+1) hd 676 [.ref c,v] [] H) P X:=by
 rw [F.u_676]
 have e:=λ{P:V→Hp→Prop}{X:Addr→Hp→Prop}=>nd_kind F (X:=X) (h.mono C.p) (P:=P)
 obtain⟨i,rfl,u,h1,j,rfl,h2⟩:=h
 have a1:=C.p _ _ h1
 have a2:=C.p _ _ h2
 simp [↓n_bind,↓n_K,↓n_asI,↓n_eqI,↓n_neI,↓n_ifb,n_iT,n_iF,Bool.not_true,↓e,Nd.kind,↓sk_g F a1 sR,↓gl_w F a2,↓gl_ko F a2,↓gl_so F a2,↓gl_s F a2,hg,↓co_s F C.ec sR,↓n_slget C.es hso]
 refine Co_s F C hso λ H1 C1=>?_
 have b1:=C1.p _ _ h1
 have b2:=C1.p _ _ h2
 simp only [↓n_bind,↓n_K,↓n_add,↓co_k F C1.ec,↓sk_g F b1 sR,↓gl_k F b2]
 refine Co_k F C1 λ H2 C2=>?_
 simp only [↓n_bind,↓n_K,↓n_add,↓co_h F C2.ec,↓co_d F C2.ec]
 refine Co_h F C2 λ H3 C3=>?_
 refine Co_d F C3 λ H4 C4=>?_
 exact hP H4 C4
theorem f_cost(C:Col H0 H c s a b f k){goal:Int}(hg:-7230584≤goal-a∧goal-a≤7230584)(hf:f 0<9223372036854775808)(hk:k<9223372036854775808){P:V→Hp→Prop} :
  R.f (callF K (n+2) hd 683 [.ref c,.int goal] [] H) P X=P (.int (ccost a f k goal)) H:=by
 refine det ?_
 rw [F.u_683]
 have g1:=λ{P:V→Hp→Prop}{X:Addr→Hp→Prop}=>n_slget C.es (o:=1) (by decide) (P:=P) (X:=X)
 have g2:=λ{P:V→Hp→Prop}{X:Addr→Hp→Prop}=>n_slget C.es (o:=2) (by decide) (P:=P) (X:=X)
 have g3:=λ{P:V→Hp→Prop}{X:Addr→Hp→Prop}=>n_slget C.es (o:=3) (by decide) (P:=P) (X:=X)
 have g0:=λ{P:V→Hp→Prop}{X:Addr→Hp→Prop}=>n_slget C.es (o:=0) (by decide) (P:=P) (X:=X)
 unfold ccost
 by_cases h:a<goal
 ·have b1:=λ{P:V→Hp→Prop}{X:Addr→Hp→Prop}=>f_bad F (H:=H) (n:=n) (hd:=hd) (e:=goal-a) (t:=f 0) (P:=P) (X:=X) ⟨Int.sub_nonneg_of_le (Int.le_of_lt h),hg.2⟩ hf
  by_cases h1:f 1=0<;>by_cases h2:f 2=0<;>by_cases h3:f 3=0<;>simp [↓n_bind,↓n_K,↓n_Kr,↓n_pure,↓n_asB,↓n_lt,↓n_sub,↓n_neI,↓n_ifb,n_iT,n_iF,Bool.not_false,Bool.not_true,↓co_h F C.ec,↓co_s F C.ec sR,h,g0,g1,g2,g3,h1,h2,h3,b1]
 ·have b1:=λ{P:V→Hp→Prop}{X:Addr→Hp→Prop}=>f_bad F (H:=H) (n:=n) (hd:=hd) (e:=a-goal) (t:=k) (P:=P) (X:=X) ⟨Int.sub_nonneg_of_le (Int.not_lt.mp h),nsub hg.1⟩ hk
  by_cases h1:k<a-goal<;>simp [↓n_bind,↓n_K,↓n_Kr,↓n_pure,↓n_lt,↓n_gt,↓n_sub,↓n_ifb,n_iT,n_iF,↓co_h F C.ec,↓co_k F C.ec,h,h1,b1,AWFUL]
theorem f_chere(C:Col H0 H c s a b f k){goal pen:Int}(hg:-7230584≤goal-a∧goal-a≤7230584)(hf:f 0<9223372036854775808)(hk:k<9223372036854775808){P:V→Hp→Prop} :
  R.f (callF K (n+3) hd 704 [.ref c,.int goal,.int pen] [] H) P X=P (.int (chere a f k goal pen)) H:=by
 refine det ?_
 rw [F.u_704]
 have e:=λ{P:V→Hp→Prop}{X:Addr→Hp→Prop}=>f_cost F (n:=n) (hd:=hd) C hg hf hk (P:=P) (X:=X)
 unfold chere
 generalize ccost a f k goal=q at e
 by_cases h1:q=1073741823<;>by_cases h2:pen≤-10000<;>by_cases h3:q<10000<;>simp [↓n_bind,↓n_K,↓n_Kr,↓n_pure,↓n_lt,↓n_le,↓n_add,↓n_methC,↓n_eqI,↓n_ifb,n_iT,n_iF,↓co_cost F C.ec,↓e,h1,h2,h3,AWFUL]
end
structure Tot(H0 H:Hp)(t s r:Nat)(m:Int)(f g:Int→Int):Prop where
 p:Pre H0 H
 ht:H0.length≤t
 hs:H0.length≤s
 hr:H0.length≤r
 ne:s≠r
 et:H[t]? = some (totO m (.ref s) (.ref r))
 es:H[s]? = some (sl f)
 er:H[r]? = some (sl g)
namespace Tot
variable{H0 H:Hp}{t s r:Nat}{m:Int}{f g:Int→Int}
theorem nes(C:Tot H0 H t s r m f g):t≠s:=λ e=>by have:=C.et.symm.trans (e▸C.es);cases this
theorem ner(C:Tot H0 H t s r m f g):t≠r:=λ e=>by have:=C.et.symm.trans (e▸C.er);cases this
theorem setT(C:Tot H0 H t s r m f g)(m':Int):Tot H0 (H.set t (totO m' (.ref s) (.ref r))) t s r m' f g:=
 ⟨C.p.set C.ht,C.ht,C.hs,C.hr,C.ne,set_at C.et,set_other C.es C.nes,set_other C.er C.ner⟩
theorem setS(C:Tot H0 H t s r m f g)(f':Int→Int):Tot H0 (H.set s (sl f')) t s r m f' g:=
 ⟨C.p.set C.hs,C.ht,C.hs,C.hr,C.ne,set_other C.et C.nes.symm,set_at C.es,set_other C.er C.ne⟩
theorem setR(C:Tot H0 H t s r m f g)(g':Int→Int):Tot H0 (H.set r (sl g')) t s r m f g':=
 ⟨C.p.set C.hr,C.ht,C.hs,C.hr,C.ne,set_other C.et C.ner.symm,set_other C.es C.ne.symm,set_at C.er⟩
theorem pre{H':Hp}(C:Tot H0 H t s r m f g)(p:Pre H H'):Tot H0 H' t s r m f g:=⟨C.p.trans p,C.ht,C.hs,C.hr,C.ne,p _ _ C.et,p _ _ C.es,p _ _ C.er⟩
end Tot
noncomputable def top(f:Int→Int):Int:=if f 3≠0 then 3 else if f 2≠0 then 2 else if f 1≠0 then 1 else 0
theorem top_ord(f:Int→Int):0≤top f∧top f≤3:=iteL (by decide) (iteL (by decide) (iteL (by decide) (by decide)))
section
variable{K:Frag}(F:KF K){H0 H:Hp}{X:Addr→Hp→Prop}{n:Nat}{hd:Bool}{t s r:Nat}{m:Int}{f g:Int→Int}
include F
theorem mk_tot{P:V→Hp→Prop}(hP:∀ H' t s r,Tot H H' t s r 0 (λ _=>0) (λ _=>0)→P (.ref t) H'):R.f (makeV K (callF K (n+3) hd) 313 [] [] H) P X:=by
 rw [F.m_313]
 refine n_mkM ?_
 rw [F.u_275]
 simp (maxDischargeDepth:=14) only [↓n_bind,↓n_K,↓n_alloc,↓n_setZ F.a_313_natural,put_le,List.length_nil,Nat.zero_le,true_and]
 have e1:(H++[O.inst 313 (put "natural" (.int 0) [])]++[O.list [.int 0,.int 0,.int 0,.int 0]])[H.length]? = some (O.inst 313 (put "natural" (.int 0) [])):=by simp
 rw [n_set e1 F.a_313_stretch (by exact put_le (by simp)),n_K]
 simp only [↓n_bind,↓n_K,↓n_alloc]
 have e2:=List.getElem?_append_left (l₂:=[O.list [.int 0,.int 0,.int 0,.int 0]]) (lt_of (set_at (o':=O.inst 313 (put "stretch" (.ref (H++[O.inst 313 (put "natural" (.int 0) [])]).length) (put "natural" (.int 0) []))) e1))
 simp only [n_set (e2.trans (set_at e1)) F.a_313_shrink (put_le (put_le (by simp)))]
 refine⟨rfl,?_⟩
 refine hP _ H.length (H.length+1) (H.length+2) ⟨?_,Nat.le_refl _,Nat.le_succ _,by lia,by lia,?_,?_,?_⟩
 ·exact(Pre.app' ((Pre.app' (Pre.app _ _) _).set (Nat.le_refl _)) _).set (Nat.le_refl _)
 ·rw [set_at (e2.trans (set_at e1))]
  simp;rfl
 ·rw [List.getElem?_set_ne (by omega),List.getElem?_append_left (by simp),List.getElem?_set_ne (by omega)]
  simp;rfl
 ·rw [List.getElem?_set_ne (by lia),List.getElem?_append_right (by simp)]
  simp;rfl
theorem f_widen(C:Tot H0 H t s r m f g){w:Int}{P:V→Hp→Prop}(hP:∀ H',Tot H0 H' t s r (m+w) f g→P .none H'):R.f (callF K (n+1) hd 289 [.ref t,.int w] [] H) P X:=by
 rw [F.u_289]
 simpa [↓n_bind,↓n_K,↓n_Kn,↓n_pure,↓n_asI,↓to_n F C.et,↓to_setn F C.et] using hP _ (C.setT (m+w))
theorem f_tadd(C:Tot H0 H t s r m f g){u:V}{q:Gl}(h:GlAt H0 u q)(ho:okG q){P:V→Hp→Prop}(hP:∀ H',Tot H0 H' t s r (m+q.w) (addAt q.so q.s f) (addAt q.ko q.k g)→P .none H'):R.f (callF K (n+1) hd 282 [.ref t,u] [] H) P X:=by
 rw [F.u_282]
 obtain⟨j,rfl,h2⟩:=h
 have hso:=ho.2.2.1
 have hko:0≤q.ko∧q.ko≤3:=koL ho.2.2.2.2
 have C1:=C.setT (m+q.w)
 have C2:=C1.setS (addAt q.so q.s f)
 have C3:=C2.setR (addAt q.ko q.k g)
 have a0:=C.p _ _ h2
 have a1:=C1.p _ _ h2
 have a2:=C2.p _ _ h2
 simpa [↓n_bind,↓n_K,↓n_Kn,↓n_pure,↓n_asI,↓to_n F C.et,↓gl_w F a0,↓to_setn F C.et,↓to_s F C1.et sR,↓gl_so F a1,↓n_slget C1.es hso,↓gl_s F a1,↓n_slset C1.es hso,↓to_k F C2.et sR,↓gl_ko F a2,↓n_slget C2.er hko,↓gl_k F a2,↓n_slset C2.er hko] using hP _ C3
theorem f_top(e:H[s]? = some (sl f)){P:V→Hp→Prop}:R.f (callF K (n+1) hd 261 [.ref s] [] H) P X=P (.int (top f)) H:=by
 refine det ?_
 rw [F.u_261]
 have g1:=λ{P:V→Hp→Prop}{X:Addr→Hp→Prop}=>n_slget e (o:=1) (by decide) (P:=P) (X:=X)
 have g2:=λ{P:V→Hp→Prop}{X:Addr→Hp→Prop}=>n_slget e (o:=2) (by decide) (P:=P) (X:=X)
 have g3:=λ{P:V→Hp→Prop}{X:Addr→Hp→Prop}=>n_slget e (o:=3) (by decide) (P:=P) (X:=X)
 simp only [↓n_bind]
 rw [show toSrc (.tup [.int 3,.int 2,.int 1])=(M.pure (.tup [.int 3,.int 2,.int 1]):M Src) from rfl,n_pure,n_K,for_some (n:=199) (v:=.int 3) rfl]
 simp only [↓n_jpE,↓n_bind]
 rw [n_lk (v:=.ref s) rfl,n_K,n_bind,n_lk (lk_self _ _ _),n_K,g3]
 simp only [↓n_bind,↓n_K,↓n_pure,↓n_asB,↓n_neI,↓n_ifb,n_iN]
 unfold top
 refine⟨λ h=>?_,λ h=>?_⟩
 ·rw [n_lk (lk_self _ _ _)];simp only [↓n_K,↓n_Kr,↓n_pure]
  simp [h]
 ·rw [for_some (n:=198) (v:=.int 2) rfl]
  simp only [↓n_jpE,↓n_bind]
  rw [n_lk (v:=.ref s) rfl,n_K,n_bind,n_lk (lk_self _ _ _),n_K,g2]
  simp only [↓n_bind,↓n_K,↓n_pure,↓n_asB,↓n_neI,↓n_ifb,n_iN]
  refine⟨λ h'=>?_,λ h'=>?_⟩
  ·rw [n_lk (lk_self _ _ _)];simp only [↓n_K,↓n_Kr,↓n_pure]
   simp [h,h']
  ·rw [for_some (n:=197) (v:=.int 1) rfl]
   simp only [↓n_jpE,↓n_bind]
   rw [n_lk (v:=.ref s) rfl,n_K,n_bind,n_lk (lk_self _ _ _),n_K,g1]
   simp only [↓n_bind,↓n_K,↓n_pure,↓n_asB,↓n_neI,↓n_ifb,n_iN]
   refine⟨λ h''=>?_,λ h''=>?_⟩
   ·rw [n_lk (lk_self _ _ _)];simp only [↓n_K,↓n_Kr,↓n_pure]
    simp [h,h',h'']
   ·rw [for_none (n:=196) rfl]
    simp [↓n_Kr,↓n_pure,h,h',h'']
theorem f_stt(C:Tot H0 H t s r m f g){P:V→Hp→Prop}:R.f (callF K (n+2) hd 296 [.ref t] [] H) P X=P (.int (top f)) H:=by
 refine det ?_
 rw [F.u_296]
 simp [↓n_bind,↓n_K,↓n_Kr,↓n_pure,↓to_s F C.et sR,↓f_top F C.es]
theorem f_sht(C:Tot H0 H t s r m f g){P:V→Hp→Prop}:R.f (callF K (n+2) hd 303 [.ref t] [] H) P X=P (.int (top g)) H:=by
 refine det ?_
 rw [F.u_303]
 simp [↓n_bind,↓n_K,↓n_Kr,↓n_pure,↓to_k F C.et sR,↓f_top F C.er]
end
end VW.Internal
end
section
open PySem PySem.W PySem.SeqAt
set_option backward.match.sparseCases false
set_option maxRecDepth 100000
namespace VW.Internal
open VS.Internal
theorem n_for{src:Src}{xs:List V}{body:V→Lo→(Lo→M Fl)→M Fl}{k:Lo→M Fl}{P:Fl→Hp→Prop}{X:Addr→Hp→Prop}(I:Nat→Lo→Hp→Prop)
  (hit:∀ j ρ h,I j ρ h→itemAt src j h=some xs[j]?)
  (step:∀ j v ρ h (k':Lo→M Fl),xs[j]? = some v→I j ρ h→(∀ ρ' h',I (j+1) ρ' h'→R.f (k' ρ' h') P X)→R.f (body v ρ k' h) P X)
  (done:∀ ρ h,I xs.length ρ h→R.f (k ρ h) P X) :
  ∀(m j:Nat) (ρ:Lo) (h:Hp),I j ρ h→j≤xs.length→xs.length<m+j→R.f (forLoop m src j ρ body k h) P X:=by
 intro m
 induction m with
 | zero=>exact λ j ρ h _ h1 h2=>absurd h2 (Nat.not_lt.mpr (Nat.le_trans (Nat.le_of_eq (Nat.zero_add j)) h1))
 | succ m ih=>
  intro j ρ h hI h1 h2
  have e:=hit j ρ h hI
  by_cases hj:j<xs.length
  ·rw [List.getElem?_eq_getElem hj] at e
   rw [for_some e]
   exact step j xs[j] ρ h _ (List.getElem?_eq_getElem hj) hI λ ρ' h' hI'=>ih (j+1) ρ' h' hI' hj (Nat.lt_of_lt_of_eq h2 (Nat.succ_add_eq_add_succ m j))
  ·have q:j=xs.length:=Nat.le_antisymm h1 (Nat.not_lt.mp hj)
   subst q
   rw [List.getElem?_eq_none (Nat.le_refl _)] at e
   rw [for_none e]
   exact done ρ h hI
noncomputable def tot(nds:List Nd):Int:=(nds.map Nd.tall).sum
noncomputable def Nd.st(o:Int):Nd→Int
 | .skip g _=>if g.so=o then g.s else 0
 | _=>0
noncomputable def Nd.sk(o:Int):Nd→Int
 | .skip g _=>if g.ko=o then g.k else 0
 | _=>0
noncomputable def ss(nds:List Nd):Int→Int:=λ o=>(nds.map (Nd.st o)).sum
noncomputable def ks(nds:List Nd):Int→Int:=λ o=>(nds.map (Nd.sk o)).sum
noncomputable def ownS(d:Int)(nd:Nd):Int:=match nd with
 | .box _ _ _ d _=>d
 | .rule _ d=>d.getD 0
 | .skip ..=>0
 | .kern _=>0
 | _=>d
noncomputable def own(nds:List Nd):Int:=nds.foldl ownS 0
theorem tot_snoc(l:List Nd)(x:Nd):tot (l++[x])=tot l+x.tall:=by simp [tot]
theorem ss_snoc(l:List Nd)(x:Nd):ss (l++[x])=λ o=>ss l o+x.st o:=by funext o;simp [ss]
theorem ks_snoc(l:List Nd)(x:Nd):ks (l++[x])=λ o=>ks l o+x.sk o:=by funext o;simp [ks]
theorem own_snoc(l:List Nd)(x:Nd):own (l++[x])=ownS (own l) x:=by simp [own]
theorem take_snoc{l:List Nd}{j:Nat}{x:Nd}(h:l[j]? = some x):l.take (j+1)=l.take j++[x]:=by
 simp only [List.take_add_one,h];rfl
noncomputable def oks(nds:List Nd):Prop:=∀ nd∈nds,nd.ok
theorem oks.take{nds:List Nd}(h:oks nds)(j:Nat):oks (nds.take j):=λ nd hm=>h nd (List.mem_of_mem_take hm)
theorem oks.drop{nds:List Nd}(h:oks nds)(j:Nat):oks (nds.drop j):=λ nd hm=>h nd (List.mem_of_mem_drop hm)
theorem oks.get{nds:List Nd}(h:oks nds){j:Nat}{nd:Nd}(e:nds[j]? = some nd):nd.ok:=h nd (List.mem_of_getElem? e)
theorem wq1{t o h:Int}:t-o+o+h=t+h-0:=by rw [Int.sub_add_cancel,Int.sub_zero]
theorem wq2{t o h:Int}:t-o+(o+h)=t+h-0:=Int.add_assoc _ _ _▸wq1
theorem wq3{t o h d:Int}:t-o+(o+h)=t+(h+d)-d:=by rw [←Int.add_assoc,Int.sub_add_cancel,←Int.add_assoc,Int.add_sub_cancel]
theorem tall_le{nd:Nd}(h:nd.ok):-200≤nd.tall∧nd.tall≤200:=by
 cases nd with
 | box=>exact(wid (iadd h.2.2.1 h.2.2.2.1) (by decide) (by decide):-200≤_∧_≤(200:Int))
 | rule a b=>rcases h with ⟨rfl | rfl,rfl | rfl⟩<;>decide
 | skip g s=>exact(wid h.1.1 (by decide) (by decide):-200≤g.w∧g.w≤(200:Int))
 | kern w=>exact(wid h (by decide) (by decide):-200≤w∧w≤(200:Int))
 | _=>exact(by decide:-200≤(0:Int)∧0≤(200:Int))
theorem mlen(c:Int)(n:Nat):c*((n+1:Nat):Int)=c+c*n:=by
 rw [Int.natCast_add,Int.mul_add,Int.add_comm];exact congrArg (· + _) (Int.mul_one c)
theorem sum_le{f:Nd→Int}{a b:Int}{nds:List Nd}(h:∀ nd∈nds,a≤f nd∧f nd≤b):a*(nds.length:Int)≤(nds.map f).sum∧(nds.map f).sum≤b*(nds.length:Int):=by
 induction nds with
 | nil=>exact⟨Int.le_of_eq (Int.mul_zero a),Int.le_of_eq (Int.mul_zero b).symm⟩
 | cons x r ih=>
  rw [List.map_cons,List.sum_cons,List.length_cons,mlen,mlen]
  exact iadd (h x (.head _)) (ih λ nd hm=>h nd (.tail _ hm))
theorem tot_le{nds:List Nd}(h:oks nds):-200*(nds.length:Int)≤tot nds∧tot nds≤200*nds.length:=sum_le λ nd hm=>tall_le (h nd hm)
theorem ownS_le{nd:Nd}(h:nd.ok){d:Int}(hd:-100≤d∧d≤100):-100≤ownS d nd∧ownS d nd≤100:=by
 cases nd with
 | box=>exact h.2.2.2.1
 | rule a b=>rcases h with ⟨_,rfl | rfl⟩<;>simp [ownS]
 | skip=>simp [ownS]
 | kern=>simp [ownS]
 | _=>exact hd
theorem own_le{nds:List Nd}(h:oks nds):-100≤own nds∧own nds≤100:=by
 have:∀(nds:List Nd),oks nds→∀ d:Int,-100≤d∧d≤100→-100≤nds.foldl ownS d∧nds.foldl ownS d≤100:=λ nds=>by
  induction nds with
  | nil=>intro _ d hd;exact hd
  | cons a r ih=>intro h d hd;exact ih (λ nd hm=>h nd (.tail _ hm)) _ (ownS_le (h a (.head _)) hd)
 exact this nds h 0 (by decide)
theorem tm_le{nds:List Nd}(h:oks nds)(hl:nds.length≤100){cap:Int}(hc:-100≤cap):-100000≤tot nds-min (own nds) cap∧tot nds-min (own nds) cap≤100000:=by
 have a:=tot_le h
 have q:200*(nds.length:Int)≤200*100:=Int.mul_le_mul_of_nonneg_left (Int.ofNat_le.mpr hl) (by decide)
 exact wid (isub (wid a (Int.le_trans (Int.neg_le_neg q) (Int.le_of_eq (Int.neg_mul 200 _).symm)) q) (imin (own_le h) hc)) (by decide) (by decide)
theorem st_le{nd:Nd}(h:nd.ok)(o:Int):0≤nd.st o∧nd.st o≤100:=by
 cases nd with
 | skip g s=>exact(iteL h.1.2.1 (by decide):0≤(if g.so=o then g.s else 0)∧(if g.so=o then g.s else 0)≤100)
 | _=>exact(by decide:(0:Int)≤0∧(0:Int)≤100)
theorem sk_le{nd:Nd}(h:nd.ok)(o:Int):0≤nd.sk o∧nd.sk o≤100:=by
 cases nd with
 | skip g s=>exact(iteL h.1.2.2.2.1 (by decide):0≤(if g.ko=o then g.k else 0)∧(if g.ko=o then g.k else 0)≤100)
 | _=>exact(by decide:(0:Int)≤0∧(0:Int)≤100)
theorem ss_le{nds:List Nd}(h:oks nds)(o:Int):0≤ss nds o∧ss nds o≤100*nds.length:=Int.zero_mul (nds.length:Int)▸sum_le λ nd hm=>st_le (h nd hm) o
theorem ks_le{nds:List Nd}(h:oks nds)(o:Int):0≤ks nds o∧ks nds o≤100*nds.length:=Int.zero_mul (nds.length:Int)▸sum_le λ nd hm=>sk_le (h nd hm) o
theorem addAt_ss{l:List Nd}{g:Gl}{s:Int}:addAt g.so g.s (ss l)=ss (l++[.skip g s]):=by
 simp only [ss_snoc];funext o;dsimp only [addAt,Nd.st]
 by_cases h:o=g.so
 ·subst h;simp
 ·rw [if_neg h,if_neg (λ e=>h e.symm)];exact(Int.add_zero _).symm
theorem addAt_ks{l:List Nd}{g:Gl}{s:Int}:addAt g.ko g.k (ks l)=ks (l++[.skip g s]):=by
 simp only [ks_snoc];funext o;dsimp only [addAt,Nd.sk]
 by_cases h:o=g.ko
 ·subst h;simp
 ·rw [if_neg h,if_neg (λ e=>h e.symm)];exact(Int.add_zero _).symm
theorem kind_ok{nd:Nd}(h:nd.ok):nd.kind=2∨nd.kind=3∨nd.kind=4∨nd.kind=5∨nd.kind=6∨nd.kind=7∨nd.kind=9∨nd.kind=10∨nd.kind=13:=by
 cases nd with
 | box=>rcases h.1 with rfl | rfl<;>simp [Nd.kind]
 | _=>repeat (first | exact Or.inl rfl | exact rfl | refine Or.inr ?_)
structure Ls(H:Hp)(i:Nat)(vs:List V)(nds:List Nd):Prop where
 h:H[i]? = some (.list vs)
 a:All2 (NdAt H) vs nds
 ok:oks nds
 len:nds.length≤100
theorem Ls.mono{H H':Hp}{i:Nat}{vs:List V}{nds:List Nd}(L:Ls H i vs nds)(p:Pre H H'):Ls H' i vs nds:=⟨p _ _ L.h,L.a.mono λ _ _ h=>h.mono p,L.ok,L.len⟩
theorem Ls.v1000{H:Hp}{i:Nat}{vs:List V}{nds:List Nd}(L:Ls H i vs nds):vs.length≤1000:=by rw [L.a.length];exact Nat.le_trans L.len (by decide)
theorem Ls.lenV{H:Hp}{i:Nat}{vs:List V}{nds:List Nd}(L:Ls H i vs nds):vs.length=nds.length:=L.a.length
theorem Ls.n200{H:Hp}{i:Nat}{vs:List V}{nds:List Nd}(L:Ls H i vs nds):nds.length<200:=Nat.lt_of_le_of_lt L.len (by decide)
theorem Ls.l200{H:Hp}{i:Nat}{vs:List V}{nds:List Nd}(L:Ls H i vs nds):vs.length<200:=Nat.lt_of_le_of_lt (Nat.le_trans (Nat.le_of_eq L.lenV) L.len) (by decide)
section
variable{K:Frag}(F:KF K){H0 H:Hp}{X:Addr→Hp→Prop}{n:Nat}{hd:Bool}{i:Nat}{vs:List V}{nds:List Nd}
include F
theorem f_check(L:Ls H i vs nds){P:V→Hp→Prop}:R.f (callF K (n+1) hd 597 [.ref i] [] H) P X=P .none H:=by
 refine det ?_
 rw [F.u_597]
 simp only [↓n_bind]
 rw [n_src L.h]
 refine n_for (xs:=vs) (λ j ρ h=>h=H) (λ j ρ h e=>by subst e;exact at_lst L.h) (λ j v ρ h k' hv e hk=>?_) (λ ρ h e=>?_) 200 0 _ _ rfl (Nat.zero_le _) L.l200
 ·subst e
  obtain⟨nd,hnd,hn⟩:=L.a.getL hv
  have e:=λ{P:V→Hp→Prop}{X:Addr→Hp→Prop}=>nd_kind F (X:=X) hn (P:=P)
  have hk':=hk (put "node" v ρ) h rfl
  rcases kind_ok (L.ok.get hnd) with q | q | q | q | q | q | q | q | q<;>simpa [↓n_jpE,↓n_bind,↓n_K,↓n_pure,↓n_asB,↓n_eqI,↓n_ifb,n_iF,↓n_lk (lk_self _ _ _),↓e,q] using hk'
 ·subst e;exact⟨rfl,rfl⟩
theorem f_nat(L:Ls H i vs nds){P:V→Hp→Prop}(hP:∀ H' t s r w,Tot H H' t s r (tot nds-own nds) (ss nds) (ks nds)→0≤w∧w≤200→P (.tup [.ref t,.int w,.int (own nds)]) H'):R.f (callF K (n+4) hd 604 [.ref i] [] H) P X:=by
 rw [F.u_604,q_604]
 simp only [↓n_bind,↓n_K,↓f_check F L]
 refine mk_tot F λ H1 t s r T1=>?_
 simp only [n_K,n_bind,n_src (T1.p _ _ L.h),n_K]
 refine n_for (xs:=vs) (λ j ρ h=>∃ w,lk "totals" ρ=some (.ref t)∧lk "width" ρ=some (.int w)∧lk "depth" ρ=some (.int (own (nds.take j)))∧(0≤w∧w≤200)∧
   Tot H h t s r (tot (nds.take j)-own (nds.take j)) (ss (nds.take j)) (ks (nds.take j))) (λ j ρ h e=>by obtain⟨w,_,_,_,_,T⟩:=e;exact at_lst (T.p _ _ L.h)) (λ j v ρ h k' hv e hk=>?_) (λ ρ h e=>?_) 200 0 _ _ ⟨0,rfl,rfl,rfl,by decide,T1⟩ (Nat.zero_le _) L.l200
 ·obtain⟨w,l1,l2,l3,hw,T⟩:=e
  obtain⟨nd,hnd,hn⟩:=L.a.getL hv
  have ho:=L.ok.get hnd
  have hn':=hn.mono T.p
  have e:=λ{P:V→Hp→Prop}{X:Addr→Hp→Prop}=>nd_kind F (X:=X) hn' (P:=P)
  have ea:=λ{P:V→Hp→Prop}{X:Addr→Hp→Prop}=>f_across F (n:=n+1) (hd:=hd) (X:=X) ho hn' (P:=P)
  have hacr:-200≤nd.acr∧nd.acr≤200:=by
   cases nd with
   | box _ w _ _ s=>exact(wid (iadd ho.2.1 ho.2.2.2.2) (by decide) (by decide):-200≤w+s∧w+s≤(200:Int))
   | _=>exact(by decide:-200≤(0:Int)∧0≤(200:Int))
  have hmx:0≤max w nd.acr∧max w nd.acr≤200:=⟨Int.le_trans hw.1 (Int.le_max_left _ _),Int.max_le.mpr ⟨hw.2,hacr.2⟩⟩
  have q0:lk "width" (put "node" v ρ)=some (.int w):=(lk_ne (by decide +kernel) ρ).trans l2
  simp only [↓n_jpE,↓n_bind,↓n_K,↓n_pure,↓n_max,↓n_lk q0,↓n_lk (lk_self _ _ _),↓ea]
  generalize hρ1:put "width" (V.int (max w nd.acr)) (put "node" v ρ)=ρ1
  have m1:lk "node" ρ1=some v:=by rw [←hρ1,lk_ne (by decide +kernel),lk_self]
  have m2:lk "totals" ρ1=some (.ref t):=by rw [←hρ1,lk_ne (by decide +kernel),lk_ne (by decide +kernel)];exact l1
  have m3:lk "width" ρ1=some (.int (max w nd.acr)):=by rw [←hρ1,lk_self]
  have m4:lk "depth" ρ1=some (.int (own (nds.take j))):=by rw [←hρ1,lk_ne (by decide +kernel),lk_ne (by decide +kernel)];exact l3
  have fin:∀(h':Hp) (d:V),d = .int (own (nds.take (j+1)))→Tot H h' t s r (tot (nds.take (j+1))-own (nds.take (j+1))) (ss (nds.take (j+1))) (ks (nds.take (j+1)))→R.f (k' (put "depth" d ρ1) h') (Kf P) X:=λ h' d hd T'=>by
   refine hk _ _ ⟨max w nd.acr,?_,?_,?_,hmx,T'⟩
   ·rw [lk_ne (by decide +kernel)];exact m2
   ·rw [lk_ne (by decide +kernel)];exact m3
   ·rw [lk_self,hd]
  have fin0:own (nds.take (j+1))=own (nds.take j)→Tot H h t s r (tot (nds.take (j+1))-own (nds.take (j+1))) (ss (nds.take (j+1))) (ks (nds.take (j+1)))→R.f (k' ρ1 h) (Kf P) X:=λ hd T'=>
   hk _ _ ⟨max w nd.acr,m2,m3,by rw [hd];exact m4,hmx,T'⟩
  have hts:=take_snoc hnd
  cases nd with
  | skip g s'=>
   obtain⟨x,rfl,u,h1,h2⟩:=hn
   have hu:notSta u=true:=by obtain⟨y,rfl,_⟩:=h2;rfl
   simp [Nd.kind,↓n_lk m1,↓n_lk m2,↓n_bind,↓n_K,↓n_pure,↓n_asB,↓n_methC,↓n_eqI,↓n_ifb,n_iT,↓e,↓to_widen F T.et,↓n_lk m4]
   refine f_widen F T λ h3 T3=>?_
   simp only [↓n_bind,↓n_K,↓n_pure,↓n_methC,↓n_lk m2,↓to_add F T3.et,↓n_lk m1,↓sk_g F (T3.p _ _ h1) hu]
   refine f_tadd F T3 h2 ho.1 λ h4 T4=>fin h4 _ ?_ ?_
   ·rw [hts,own_snoc];rfl
   ·rw [hts,own_snoc,tot_snoc,←addAt_ss,←addAt_ks]
    have:tot (nds.take j)-own (nds.take j)+own (nds.take j)+g.w=tot (nds.take j)+(Nd.skip g s').tall-ownS (own (nds.take j)) (.skip g s'):=wq1
    rw [←this];exact T4
  | kern w'=>
   obtain⟨x,rfl,h1⟩:=id hn'
   simp [Nd.kind,↓n_jpE,↓n_lk m1,↓n_lk m2,↓n_lk m4,↓n_bind,↓n_K,↓n_pure,↓n_asB,↓n_add,↓n_methC,↓n_eqI,↓n_ifb,n_iT,n_iF,↓e,↓to_widen F T.et,↓kn_w F h1]
   refine f_widen F T λ h3 T3=>fin h3 _ ?_ ?_
   ·rw [hts,own_snoc];rfl
   ·simp only [hts,own_snoc,tot_snoc,ss_snoc,ks_snoc]
    have:tot (nds.take j)-own (nds.take j)+(own (nds.take j)+w')=tot (nds.take j)+(Nd.kern w').tall-ownS (own (nds.take j)) (.kern w'):=wq2
    rw [←this]
    simpa [Nd.st,Nd.sk] using T3
  | box k1 w1 h1 d1 sh1=>
   rcases ho.1 with rfl | rfl
   all_goals
    simp [Nd.kind,↓n_jpE,↓n_lk m1,↓n_lk m2,↓n_lk m4,↓n_bind,↓n_K,↓n_pure,↓n_asB,↓n_add,↓n_methC,↓n_eqI,↓n_ifb,n_iT,n_iF,↓e,↓to_widen F T.et,↓f_height F ho rfl hn']
    refine f_widen F T λ h3 T3=>?_
    simp only [↓n_lk m1,↓n_bind,↓n_K,↓n_pure,↓f_depth F ho rfl (hn.mono T3.p)]
    refine fin h3 _ ?_ ?_
    ·simp only [hts,own_snoc];rfl
    ·simp only [hts,own_snoc,tot_snoc,ss_snoc,ks_snoc]
     have:∀ k1,tot (nds.take j)-own (nds.take j)+(own (nds.take j)+h1)=tot (nds.take j)+(Nd.box k1 w1 h1 d1 sh1).tall-ownS (own (nds.take j)) (.box k1 w1 h1 d1 sh1):=λ _=>wq3
     rw [←this]
     simpa [Nd.st,Nd.sk,Nd.hgt] using T3
  | rule h1 d1=>
   simp [Nd.kind,↓n_jpE,↓n_lk m1,↓n_lk m2,↓n_lk m4,↓n_bind,↓n_K,↓n_pure,↓n_asB,↓n_add,↓n_methC,↓n_eqI,↓n_ifb,n_iT,n_iF,↓e,↓to_widen F T.et,↓f_height F ho rfl hn']
   refine f_widen F T λ h3 T3=>?_
   simp only [↓n_lk m1,↓n_bind,↓n_K,↓n_pure,↓f_depth F ho rfl (hn.mono T3.p)]
   refine fin h3 _ ?_ ?_
   ·simp only [hts,own_snoc];rfl
   ·simp only [hts,own_snoc,tot_snoc,ss_snoc,ks_snoc]
    have:tot (nds.take j)-own (nds.take j)+(own (nds.take j)+h1.getD 0)=tot (nds.take j)+(Nd.rule h1 d1).tall-ownS (own (nds.take j)) (.rule h1 d1):=wq3
    rw [←this]
    simpa [Nd.st,Nd.sk,Nd.hgt] using T3
  | _=>
   simp [Nd.kind,↓n_jpE,↓n_lk m1,↓n_bind,↓n_K,↓n_pure,↓n_asB,↓n_eqI,↓n_ifb,n_iF,↓e]
   refine fin0 ?_ ?_
   ·simp only [hts,own_snoc];rfl
   ·simp only [hts,own_snoc,tot_snoc,ss_snoc,ks_snoc]
    simpa [Nd.st,Nd.sk,Nd.tall,ownS] using T
 ·obtain⟨w,l1,l2,l3,hw,T⟩:=e
  rw [L.lenV,List.take_length] at l3 T
  simp only [↓n_bind,↓n_K,↓n_pure,↓n_lk l1,↓n_lk l2,↓n_lk l3]
  exact hP _ t s r w T hw
end
end VW.Internal
end
section
open PySem PySem.W PySem.SeqAt
set_option backward.match.sparseCases false
set_option maxRecDepth 100000
namespace VW.Internal
open VS.Internal
noncomputable def tord(f g:Int→Int)(e:Int):Int:=top (if 0<e then f else g)
noncomputable def ttot(f g:Int→Int)(e:Int):Int:=(if 0<e then f else g) (tord f g e)
noncomputable def rep(f g:Int→Int)(e:Int):Int × Int:=if e=0 then(0,0) else if tord f g e=0 then(if e<0∧ttot f g e < -e then(3,-e-ttot f g e) else((if 0<e then 1 else 2),vbad e.natAbs (ttot f g e))) else(0,0)
noncomputable def pr(x:Int × Int):V:=.tup [.int x.1,.int x.2]
section
variable{K:Frag}(F:KF K){H0 H:Hp}{X:Addr→Hp→Prop}{n:Nat}{hd:Bool}
include F
theorem f_quot{a b:Int}{P:V→Hp→Prop}:R.f (callF K (n+1) hd 611 [.int a,.int b] [] H) P X=P (pr (if 0<b then(a,b) else(-a,-b))) H:=by
 refine det ?_
 rw [F.u_611]
 by_cases h:0<b<;>simp [↓n_bind,↓n_K,↓n_Kr,↓n_pure,↓n_gt,↓n_neg,↓n_ifb,n_iT,n_iF,h,pr]
theorem f_gsize{a m c:Int}(hc:-1073741823≤c∧c≤1073741823)(hm:m=0∨m=1){P:V→Hp→Prop}:R.f (callF K (n+3) hd 625 [.int a,.int m,.int c] [] H) P X=P (.int (if m=0 then c else a+c)) H:=by
 refine det ?_
 rw [F.u_625]
 rcases hm with rfl | rfl<;>simp [↓n_bind,↓n_K,↓n_Kr,↓n_pure,↓n_asB,↓n_add,↓n_eqI,↓n_neI,↓n_ifb,n_iT,n_iF,Bool.not_false,Bool.not_true,↓f_cd F hc]
theorem f_glue{t s r:Nat}{m:Int}{f g:Int→Int}(T:Tot H0 H t s r m f g){e:Int}(he:-7230584≤e∧e≤7230584)(hf:∀ o,0≤f o∧f o<9223372036854775808)(hg:∀ o,0≤g o∧g o<9223372036854775808){P:V→Hp→Prop}
  (hP:∀ sg od x,(e=0→sg=0∧od=0∧x=((0:Int),(1:Int)))→P (.tup [.int sg,.int od,pr x,pr (rep f g e)]) H):R.f (callF K (n+3) hd 618 [.ref t,.int e] [] H) P X:=by
 rw [F.u_618]
 by_cases h0:e=0
 ·subst h0
  simpa [↓n_bind,↓n_K,↓n_Kr,↓n_pure,↓n_eqI,↓n_ifb,n_iT,rep,pr] using hP 0 0 (0,1) (λ _=>⟨rfl,rfl,rfl⟩)
 have hP':=λ sg od x=>hP sg od x (λ q=>absurd q h0)
 unfold rep at hP'
 rw [if_neg h0] at hP'
 by_cases hp:0<e
 ·have hto:=top_ord f
  have est:=λ{P:V→Hp→Prop}{X:Addr→Hp→Prop}=>f_stt F (n:=n) (hd:=hd) T (P:=P) (X:=X)
  have gt:=λ{P:V→Hp→Prop}{X:Addr→Hp→Prop}=>n_slget T.es hto (P:=P) (X:=X)
  have hto0:tord f g e=top f:=by unfold tord;rw [if_pos hp]
  have htt0:ttot f g e=f (top f):=by unfold ttot;rw [if_pos hp,hto0]
  have hb:=λ{P:V→Hp→Prop}{X:Addr→Hp→Prop}=>f_bad F (H:=H) (n:=n+1) (hd:=hd) (e:=e.natAbs) (t:=f (top f)) (P:=P) (X:=X) (abs_le he) (hf _).2
  rw [htt0,hto0] at hP'
  have hlt:¬ e<0:=Int.not_lt.mpr (Int.le_of_lt hp)
  generalize top f=o at est gt hb hP'
  generalize f o=U at gt hb hP'
  by_cases ho:o=0<;>by_cases hU:U=0<;>simp [ho,hU,h0,hp,hlt,pr] at hP' est gt hb<;>
   simp [↓n_bind,↓n_K,↓n_Kr,↓n_pure,↓n_asB,↓n_lt,↓n_gt,↓n_abs,↓n_methC,↓n_eqI,↓n_ifb,n_iT,n_iF,h0,hp,hlt,↓to_stt F T.et,↓to_s F T.et sR,↓est,↓gt,hb,ho,hU,pr,↓n_getT,idx,↓f_quot F,hP']
 ·have hto:=top_ord g
  have est:=λ{P:V→Hp→Prop}{X:Addr→Hp→Prop}=>f_sht F (n:=n) (hd:=hd) T (P:=P) (X:=X)
  have gt:=λ{P:V→Hp→Prop}{X:Addr→Hp→Prop}=>n_slget T.er hto (P:=P) (X:=X)
  have hto0:tord f g e=top g:=by unfold tord;rw [if_neg hp]
  have htt0:ttot f g e=g (top g):=by unfold ttot;rw [if_neg hp,hto0]
  have hb:=λ{P:V→Hp→Prop}{X:Addr→Hp→Prop}=>f_bad F (H:=H) (n:=n+1) (hd:=hd) (e:=e.natAbs) (t:=g (top g)) (P:=P) (X:=X) (abs_le he) (hg _).2
  rw [htt0,hto0] at hP'
  have hlt:e<0:=Int.lt_iff_le_and_ne.mpr ⟨Int.not_lt.mp hp,h0⟩
  generalize top g=o at est gt hb hP'
  generalize g o=U at gt hb hP'
  by_cases ho:o=0<;>by_cases hU:U=0<;>by_cases hv:U < -e<;>simp [ho,hU,h0,hp,hlt,hv,pr] at hP' est gt hb<;>
   simp [↓n_bind,↓n_K,↓n_Kr,↓n_pure,↓n_asB,↓n_lt,↓n_gt,↓n_sub,↓n_neg,↓n_abs,↓n_methC,↓n_eqI,↓n_ifb,n_iT,n_iF,h0,hp,hlt,hv,↓to_sht F T.et,↓to_k F T.et sR,↓est,↓gt,hb,ho,hU,pr,↓n_getT,idx,↓f_quot F,hP']
theorem f_setbox{t s r:Nat}{m:Int}{f g:Int→Int}(T:Tot H0 H t s r m f g){e:Int}(he:-7230584≤e∧e≤7230584)(hf:∀ o,0≤f o∧f o<9223372036854775808)(hg:∀ o,0≤g o∧g o<9223372036854775808)
  {b i:Nat}{w h d:Int}{vs:List V} (hb:H[b]? = some (boxO 3 w h d (.ref i) 0 0 0 r01)) (hb0:H0.length≤b) (hi:H0[i]? = some (.list vs)) {P:V→Hp→Prop}
  (hP:∀ H' sg od x,Pre H0 H'→H'[b]? = some (boxO 3 w h d (.ref i) 0 sg od (pr x))→(e=0→sg=0∧od=0∧x=((0:Int),(1:Int)))→P (pr (if vs.isEmpty then(0,0) else rep f g e)) H'):R.f (callF K (n+4) hd 632 [.ref b,.ref t,.int e] [] H) P X:=by
 rw [F.u_632]
 simp only [↓n_bind]
 refine f_glue F T he hf hg λ sg od x hx=>?_
 simp only [↓n_bind,↓n_K,↓n_un4]
 have e1:∀{P:Unit→Hp→Prop}{X:Addr→Hp→Prop},R.f (setA K (.ref b) "sign" (.int sg) H) P X=P () (H.set b (boxO 3 w h d (.ref i) 0 sg 0 r01)):=λ{P X}=>n_set hb F.a_354_sign (by simp)
 simp only [e1,n_K,n_bind]
 have h1:=set_at (o':=boxO 3 w h d (.ref i) 0 sg 0 r01) hb
 have p1:=T.p.set (o:=boxO 3 w h d (.ref i) 0 sg 0 r01) hb0
 generalize H.set b (boxO 3 w h d (.ref i) 0 sg 0 r01)=H1 at h1 p1
 have e2:∀{P:Unit→Hp→Prop}{X:Addr→Hp→Prop},R.f (setA K (.ref b) "order" (.int od) H1) P X=P () (H1.set b (boxO 3 w h d (.ref i) 0 sg od r01)):=λ{P X}=>n_set h1 F.a_354_order (by simp)
 simp only [e2,n_K,n_bind]
 have h2:=set_at (o':=boxO 3 w h d (.ref i) 0 sg od r01) h1
 have p2:=p1.set (o:=boxO 3 w h d (.ref i) 0 sg od r01) hb0
 generalize H1.set b (boxO 3 w h d (.ref i) 0 sg od r01)=H2 at h2 p2
 have e3:∀{P:Unit→Hp→Prop}{X:Addr→Hp→Prop},R.f (setA K (.ref b) "ratio" (pr x) H2) P X=P () (H2.set b (boxO 3 w h d (.ref i) 0 sg od (pr x))):=λ{P X}=>n_set h2 F.a_354_ratio (by simp)
 simp only [e3]
 have h3:=set_at (o':=boxO 3 w h d (.ref i) 0 sg od (pr x)) h2
 have p3:=p2.set (o:=boxO 3 w h d (.ref i) 0 sg od (pr x)) hb0
 generalize H2.set b (boxO 3 w h d (.ref i) 0 sg od (pr x))=H3 at h3 p3
 simp only [↓n_bind,↓n_K,↓n_alloc,↓bx_items F h3 sR]
 have p4:=p3.app' [.list []]
 simp only [n_ne,n_eqL (p4 _ _ hi) at_last eq_nil]
 have hq:=hP (H3++[.list []]) sg od x p4 (Pre.app _ _ _ _ h3) hx
 cases hv:vs.isEmpty<;>simpa [↓n_bind,↓n_K,↓n_Kr,↓n_pure,↓n_ifb,n_iT,n_iF,Bool.not_false,Bool.not_true,hv,pr] using hq
noncomputable def low(nds:List Nd)(m:Int):Int:=min (own nds) m
noncomputable def nat(nds:List Nd)(m:Int):Int:=tot nds-low nds m
theorem f_vpack{i:Nat}{vs:List V}{nds:List Nd}(L:Ls H i vs nds){mode am m:Int}(hmode:mode=0∨mode=1)(ham:-1000000≤am∧am≤1000000)(hm:-100≤m∧m≤1073741823){P:V→Hp→Prop}
  (hP:∀ H' b w sg od x,Pre H H'→H'[b]? = some (boxO 3 w (if mode=0 then am else nat nds m+am) (low nds m) (.ref i) 0 sg od (pr x))→
   ((if mode=0 then am else nat nds m+am)-nat nds m=0→sg=0∧od=0∧x=((0:Int),(1:Int)))→
   P (.tup [.ref b,pr (if nds.isEmpty then(0,0) else rep (ss nds) (ks nds) ((if mode=0 then am else nat nds m+am)-nat nds m))]) H') :
  R.f (c_640 K (callF K (n+5) hd) (.ref i) (.int mode) (.int am) (.int m) H) (Kf P) X:=by
 have hol:=own_le L.ok
 have hll:=L.len
 have hf:∀ o,0≤ss nds o∧ss nds o<9223372036854775808:=λ o=>s63 (ss_le L.ok o) hll
 have hg:∀ o,0≤ks nds o∧ks nds o<9223372036854775808:=λ o=>s63 (ks_le L.ok o) hll
 have hve:vs.isEmpty=nds.isEmpty:=L.a.nil_iff
 simp only [↓n_bind]
 rw [f_cd F (wid hm (by decide) (by decide)),n_K,n_bind]
 refine f_nat F L λ H1 t s r w T hw=>?_
 simp only [↓n_bind,↓n_K,↓n_gt,↓n_un3,↓n_ifb,n_iD]
 have tail:∀ H2,Tot H H2 t s r (nat nds m) (ss nds) (ks nds)→R.f (c_640_2 K (callF K (n+5) hd) (.ref i) (.int mode) (.int am) (.int (low nds m)) (.ref t) (.int w) H2) (Kf P) X:=λ H2 T2=>by
  simp only [↓n_bind,↓n_K,↓to_n F T2.et]
  rw [f_gsize F (wid ham (by decide) (by decide)) hmode]
  have hlow:-1073741823≤low nds m∧low nds m≤1073741823:=wid (imin hol hm.1) (by decide) (by decide)
  have hnat:-1000000≤nat nds m∧nat nds m≤1000000:=wid (tm_le L.ok hll hm.1) (by decide) (by decide)
  have hhg:-2000000≤(if mode=0 then am else nat nds m+am)∧(if mode=0 then am else nat nds m+am)≤2000000:=iteL (wid ham (by decide) (by decide)) (wid (iadd hnat ham) (by decide) (by decide))
  generalize (if mode=0 then am else nat nds m+am)=hgt at hP hhg
  rw [n_K,n_bind,mk_box F (by decide) (wid hw (by decide) (by decide)) (wid hhg (by decide) (by decide)) hlow]
  have T3:=T2.pre (Pre.app _ [boxO 3 w hgt (low nds m) (.ref i) 0 0 0 r01])
  simp only [↓n_bind,↓n_K,↓n_sub,↓to_n F T3.et]
  refine f_setbox F T3 (wid (isub hhg hnat) (by decide) (by decide)) hf hg at_last (by have:=T2.p.len;omega) L.h λ H4 sg od x p4 hb hx=>?_
  simp only [↓n_K,↓n_Kr,↓n_pure,hve]
  exact hP H4 _ w sg od x p4 hb hx
 have hh:nat nds m=tot nds-own nds+(own nds-low nds m):=by rw [←Int.add_sub_assoc,Int.sub_add_cancel];rfl
 refine⟨λ hlt=>?_,λ hlt=>?_⟩
 ·have hlt':m<own nds:=hlt
  have hl:low nds m=m:=Int.min_eq_right (Int.le_of_lt hlt')
  simp only [↓n_bind,↓n_K,↓n_sub,↓n_methC,↓to_widen F T.et]
  refine f_widen F T λ H2 T2=>?_
  have:=tail H2 (by simp only [hh,hl];exact T2)
  rw [hl] at this
  exact this
 ·have hlt':¬ m<own nds:=hlt
  have hl:low nds m=own nds:=Int.min_eq_left (Int.not_lt.mp hlt')
  have:=tail H1 (by simp only [hh,hl];simpa using T)
  rw [hl] at this
  exact this
end
end VW.Internal
end
section
open PySem PySem.W PySem.SeqAt
set_option backward.match.sparseCases false
set_option maxRecDepth 100000
namespace VW.Internal
open VS.Internal
noncomputable def Nd.stands(nd:Nd):Bool:=nd.kind≠6&&(nd.kind≠5&&(nd.kind≠7&&nd.kind≠12))
noncomputable def pen(nds:List Nd)(j:Nat):Option Int:=if j=nds.length then some (-10000) else match nds[j]? with
 | some (.pen v)=>some v
 | some (.skip ..)=>(match j with
  | 0=>none
  | j+1=>if(nds[j]?.map Nd.stands)=some true then some 0 else none)
 | some (.kern _)=>if nds[j+1]?.map Nd.kind=some 6 then some 0 else none
 | _=>none
noncomputable def fee(nds:List Nd)(j:Nat):Option Int:=match pen nds j with
 | some v=>if v<10000 then some v else none
 | none=>none
noncomputable def Nd.endless:Nd→Bool
 | .skip g _=>decide (g.ko≠0)
 | _=>false
noncomputable def hgt(nds:List Nd)(cap:Int)(j:Nat):Int:=if j=0 then 0 else nat (nds.take j) cap
noncomputable def price(nds:List Nd)(goal cap:Int)(j:Nat)(v:Int):Int:=chere (hgt nds cap j) (ss (nds.take j)) (ks (nds.take j) 0) goal v
noncomputable def tri(nds:List Nd)(goal cap:Int)(j:Nat):Option (Nat × Int × Bool):=(fee nds j).map λ v=>(j,price nds goal cap j v,decide (price nds goal cap j v=AWFUL)||decide (v≤-10000))
noncomputable def endAt(nds:List Nd)(j:Nat):Bool:=(nds[j]?.map Nd.endless)==some true
noncomputable def cands(nds:List Nd)(goal cap:Int):Nat→Nat→List (Nat × Int × Bool)
 | 0,_=>[]
 | m+1,j=>(tri nds goal cap j).toList++(if endAt nds j then [] else cands nds goal cap m (j+1))
noncomputable def scanL:List (Nat × Int × Bool)→Nat→Int→Option (Nat × Int)
 | [],_,_=>none
 | (j,c,e)::r,b,l=>if e then some (if c≤l then(j,c) else(b,l)) else scanL r (if c≤l then j else b) (if c≤l then c else l)
noncomputable def choice(nds:List Nd)(goal cap:Int):Option (Nat × Int):=scanL (cands nds goal cap (nds.length+1) 0) nds.length AWFUL
theorem vbad_le{e t:Int}(he:0≤e):0≤vbad e t∧vbad e t≤10000:=by
 unfold vbad
 refine iteL (by decide) ?_
 by_cases h2:t≤0
 ·rw [if_pos h2];decide
 rw [if_neg h2]
 by_cases h3:(e*297).fdiv t>1290
 ·rw [if_pos h3];decide
 rw [if_neg h3]
 have hq:0≤(e*297).fdiv t:=Int.fdiv_nonneg (Int.mul_nonneg he (by decide)) (Int.le_of_lt (Int.not_le.mp h2))
 have h3:=Int.not_lt.mp h3
 generalize (e*297).fdiv t=q at *
 have h4:q*q*q≤1290*1290*1290:=Int.mul_le_mul (Int.mul_le_mul h3 h3 hq (by decide)) h3 hq (by decide)
 have h5:0≤q*q*q:=Int.mul_nonneg (Int.mul_nonneg hq hq) hq
 rw [Int.fdiv_eq_ediv_of_nonneg _ (by decide)]
 exact⟨Int.ediv_nonneg (Int.add_nonneg h5 (by decide)) (by decide),Int.le_trans (Int.ediv_le_ediv (by decide) (Int.add_le_add_right h4 131072)) (by decide)⟩
theorem chere_le{a:Int}{f:Int→Int}{k goal v:Int}(hv:v<10000):chere a f k goal v≤AWFUL:=by
 have h:ccost a f k goal=AWFUL∨ccost a f k goal≤10000:=by
  unfold ccost
  by_cases q:a<goal
  ·rw [if_pos q];exact .inr (iteL (a:=0) (b:=10000) (by decide) (vbad_le (Int.sub_nonneg_of_le (Int.le_of_lt q)))).2
  rw [if_neg q]
  by_cases z:k<a-goal
  ·rw [if_pos z];exact .inl rfl
  ·rw [if_neg z];exact .inr (vbad_le (Int.sub_nonneg_of_le (Int.not_lt.mp q))).2
 unfold chere
 by_cases h1:ccost a f k goal=AWFUL
 ·rw [if_pos h1];exact Int.le_refl _
 rw [if_neg h1]
 by_cases h2:v≤-10000
 ·rw [if_pos h2];exact Int.le_trans h2 (by decide)
 rw [if_neg h2]
 by_cases h3:ccost a f k goal<10000
 ·rw [if_pos h3];exact Int.le_trans (Int.add_le_add (Int.le_of_lt h3) (Int.le_of_lt hv)) (by decide)
 ·rw [if_neg h3];decide
theorem fee_lt{nds:List Nd}{j:Nat}{v:Int}(h:fee nds j=some v):v<10000∧pen nds j=some v:=by
 unfold fee at h
 split at h
 ·split at h
  ·cases h;rename_i e _;exact⟨by assumption,e⟩
  ·exact no_some h
 ·exact no_some h
section
variable{K:Frag}(F:KF K){H0 H:Hp}{X:Addr→Hp→Prop}{n:Nat}{hd:Bool}{i:Nat}{vs:List V}{nds:List Nd}
include F
theorem idx_nat{j m:Nat}(h:j<m):idx (j:Int) m=some j:=by unfold idx;rw [if_pos (Int.natCast_nonneg j),if_pos (Int.ofNat_lt.mpr h)];rfl
theorem get_node(L:Ls H i vs nds){j:Nat}{nd:Nd}(e:nds[j]? = some nd):∃ v,vs[j]? = some v∧NdAt H v nd∧∀{P:V→Hp→Prop}{X:Addr→Hp→Prop},R.f (getI (.ref i) (.int (j:Int)) H) P X=P v H:=by
 obtain⟨v,hv,hn⟩:=L.a.get e
 have hj:j<vs.length:=(List.getElem?_eq_some_iff.mp hv).1
 have:=L.lenV;have:=L.len
 exact⟨v,hv,hn,λ{P X}=>n_getL L.h L.v1000 ⟨j,idx_nat F hj,hv⟩⟩
theorem f_pen(L:Ls H i vs nds){j:Nat}(hj:j≤nds.length){P:V→Hp→Prop}:R.f (callF K (n+3) hd 697 [.ref i,.int (j:Int)] [] H) P X=P (oV (pen nds j)) H:=by
 refine det ?_
 rw [F.u_697]
 have hl:=L.lenV
 simp only [↓n_bind,↓n_K,↓n_Kr,↓n_pure,↓n_eqI,↓n_ifb,n_iD,↓n_len L.h L.v1000]
 unfold pen
 by_cases he:j=nds.length
 ·simp [he,hl,oV]
 ·have hjl:j<nds.length:=Nat.lt_of_le_of_ne hj he
  have e0:¬(j:Int)=(vs.length:Int):=λ z=>he ((Int.ofNat_inj.mp z).trans hl)
  obtain⟨nd,hnd⟩:∃ nd,nds[j]? = some nd:=⟨nds[j],List.getElem?_eq_getElem hjl⟩
  obtain⟨v,hv,hn,hg⟩:=get_node F L hnd
  have e:=λ{P:V→Hp→Prop}{X:Addr→Hp→Prop}=>nd_kind F (X:=X) hn (P:=P)
  have ho:=L.ok.get hnd
  rw [if_neg he,hnd]
  simp only [↓e0,false_implies,true_implies,true_and,not_false_eq_true,hg,↓n_bind,↓n_K]
  cases nd with
  | pen w=>
   obtain⟨x,rfl,h1⟩:=id hn
   simp [Nd.kind,↓n_bind,↓n_K,↓n_Kr,↓n_pure,↓n_eqI,↓n_ifb,n_iT,↓e,↓pe_v F h1,oV]
  | skip g s=>
   cases j with
   | zero=>simp [Nd.kind,↓n_bind,↓n_K,↓n_Kr,↓n_pure,↓n_asB,↓n_gt,↓n_eqI,↓n_ifb,n_iT,n_iF,↓e,oV]
   | succ j=>
    obtain⟨nd',hnd'⟩:∃ nd',nds[j]? = some nd':=⟨nds[j],List.getElem?_eq_getElem (Nat.lt_of_succ_lt hjl)⟩
    obtain⟨v',hv',hn',hg'⟩:=get_node F L hnd'
    have ea:∀{P:V→Hp→Prop}{X:Addr→Hp→Prop},R.f (callF K (n+2) hd 575 [v'] [] H) P X=P (.bool nd'.stands) H:=λ{P X}=>f_ahead F hn'
    have ej:((j+1:Nat):Int)-1=(j:Int):=Int.add_sub_cancel (j:Int) 1
    have e3:(0:Int)<((j+1:Nat):Int):=Int.ofNat_lt.mpr (Nat.succ_pos j)
    cases hst:nd'.stands<;>rw [hst] at ea<;>simp [hnd',Nd.kind,↓n_bind,↓n_K,↓n_Kr,↓n_pure,↓n_asB,↓n_gt,↓n_sub,↓n_eqI,↓n_ifb,n_iT,n_iF,↓e,↓e3,ej,hg',↓ea,oV,hst]
  | kern w=>
   have en:=λ{P:V→Hp→Prop}{X:Addr→Hp→Prop}=>n_len L.h (X:=X) L.v1000 (P:=P)
   by_cases hq:nds.length=j+1
   ·have:nds[j+1]? = none:=List.getElem?_eq_none (Nat.le_of_eq hq)
    have e1:(j:Int)+1=(vs.length:Int):=congrArg Int.ofNat (hl.trans hq).symm
    simp [this,Nd.kind,↓n_bind,↓n_K,↓n_Kr,↓n_pure,↓n_asB,↓n_add,↓n_eqI,↓n_ifb,n_iT,n_iF,Bool.not_true,↓e,↓en,↓e1,oV]
   ·obtain⟨nd',hnd'⟩:∃ nd',nds[j+1]? = some nd':=⟨nds[j+1],List.getElem?_eq_getElem (Nat.lt_of_le_of_ne hjl λ z=>hq z.symm)⟩
    obtain⟨v',hv',hn',hg'⟩:=get_node F L hnd'
    have e':=λ{P:V→Hp→Prop}{X:Addr→Hp→Prop}=>nd_kind F (X:=X) hn' (P:=P)
    have ej:((j+1:Nat):Int)=(j:Int)+1:=rfl
    rw [ej] at hg'
    have e1:¬(j:Int)+1=(vs.length:Int):=λ z=>hq ((Int.ofNat_inj.mp (z:((j+1:Nat):Int)=(vs.length:Int))).trans hl).symm
    have e5:∀{P:V→Hp→Prop}{X:Addr→Hp→Prop},R.f (getA K v "kind" H) P X=P (.int 5) H:=e
    by_cases h6:nd'.kind=6<;>simp [hnd',↓n_bind,↓n_K,↓n_Kr,↓n_pure,↓n_asB,↓n_add,↓n_eqI,↓n_ifb,n_iT,n_iF,Bool.not_false,↓e5,↓en,↓e1,hg',↓e',oV,h6]
  | box k=>
   rcases ho.1 with rfl | rfl<;>simp [Nd.kind,oV,↓n_bind,↓n_K,↓n_Kr,↓n_pure,↓n_eqI,↓n_ifb,n_iF,↓e]
  | _=>simp [Nd.kind,oV,↓n_bind,↓n_K,↓n_Kr,↓n_pure,↓n_eqI,↓n_ifb,n_iF,↓e]
end
end VW.Internal
end
section
open PySem PySem.W PySem.SeqAt
set_option backward.match.sparseCases false
set_option maxRecDepth 100000
namespace VW.Internal
open VS.Internal
theorem n_jp{rest:Lo→M Fl}{f:(Lo→M Fl)→M Fl}{P:Fl→Hp→Prop}{X:Addr→Hp→Prop}{H:Hp}(Q:Lo→Hp→Prop)(hr:∀ ρ h,Q ρ h→R.f (rest ρ h) P X)
  (hb:∀ k:Lo→M Fl,(∀ ρ h,Q ρ h→R.f (k ρ h) P X)→R.f (f k H) P X):R.f (jp rest f H) P X:=hb rest hr
structure BB(ρ:Lo)(i c:Nat)(goal cap best least size:Int):Prop where
 l1:lk "items" ρ=some (.ref i)
 l2:lk "height" ρ=some (.int goal)
 l3:lk "most_depth" ρ=some (.int cap)
 l4:lk "column" ρ=some (.ref c)
 l5:lk "best" ρ=some (.int best)
 l6:lk "least" ρ=some (.int least)
 l7:lk "size" ρ=some (.int size)
noncomputable def bbKeys(x:PySem.Str):Bool:=(x == "items")||(x == "height")||(x == "most_depth")||(x == "column")||(x == "best")||(x == "least")||(x == "size")
theorem BB.put{ρ:Lo}{i c:Nat}{goal cap best least size:Int}(B:BB ρ i c goal cap best least size){x:PySem.Str}(h:bbKeys x=false)(v:V):BB (put x v ρ) i c goal cap best least size:=by
 simp only [bbKeys,Bool.or_eq_false_iff] at h
 obtain⟨⟨⟨⟨⟨⟨h1,h2⟩,h3⟩,h4⟩,h5⟩,h6⟩,h7⟩:=h
 exact⟨(lk_ne h1 ρ).trans B.l1,(lk_ne h2 ρ).trans B.l2,(lk_ne h3 ρ).trans B.l3,(lk_ne h4 ρ).trans B.l4,(lk_ne h5 ρ).trans B.l5,(lk_ne h6 ρ).trans B.l6,(lk_ne h7 ρ).trans B.l7⟩
theorem BB.put3{ρ:Lo}{i c:Nat}{goal cap best least size:Int}(B:BB ρ i c goal cap best least size)(b' l' s':Int):BB (VS.Internal.put "size" (.int s') (VS.Internal.put "least" (.int l') (VS.Internal.put "best" (.int b') ρ))) i c goal cap b' l' s' where
 l1:=by rw [lk_ne (by decide +kernel),lk_ne (by decide +kernel),lk_ne (by decide +kernel)];exact B.l1
 l2:=by rw [lk_ne (by decide +kernel),lk_ne (by decide +kernel),lk_ne (by decide +kernel)];exact B.l2
 l3:=by rw [lk_ne (by decide +kernel),lk_ne (by decide +kernel),lk_ne (by decide +kernel)];exact B.l3
 l4:=by rw [lk_ne (by decide +kernel),lk_ne (by decide +kernel),lk_ne (by decide +kernel)];exact B.l4
 l5:=by rw [lk_ne (by decide +kernel),lk_ne (by decide +kernel),lk_self]
 l6:=by rw [lk_ne (by decide +kernel),lk_self]
 l7:=by rw [lk_self]
noncomputable def dpt(nds:List Nd)(cap:Int)(j:Nat):Int:=if j=0 then 0 else low (nds.take j) cap
theorem gbig{g:Int}(h:-1000000≤g∧g≤1000000):-1073741823≤g∧g≤1073741823:=⟨Int.le_trans (by decide) h.1,Int.le_trans h.2 (by decide)⟩
theorem cbig{g:Int}(h:-100≤g∧g≤1073741823):-1073741823≤g∧g≤1073741823:=⟨Int.le_trans (by decide) h.1,h.2⟩
theorem hd_sum(nds:List Nd)(cap:Int)(j:Nat):hgt nds cap j+dpt nds cap j=tot (nds.take j):=by
 unfold hgt dpt
 split
 ·rename_i h;subst h;rfl
 ·unfold nat;lia
theorem scan_some(v:Int){nds:List Nd}{goal cap:Int}{m j b:Nat}{l:Int}(h:fee nds j=some v):scanL (cands nds goal cap (m+1) j) b l =
  if price nds goal cap j v=AWFUL∨v≤-10000 then some (if price nds goal cap j v≤l then(j,price nds goal cap j v) else(b,l))
  else if endAt nds j then none else scanL (cands nds goal cap m (j+1)) (if price nds goal cap j v≤l then j else b) (if price nds goal cap j v≤l then price nds goal cap j v else l):=by
 simp only [cands,tri,h,Option.map_some,Option.toList_some,List.cons_append,List.nil_append,scanL,Bool.or_eq_true,decide_eq_true_eq]
 split
 ·rfl
 ·split<;>rfl
theorem scan_none{nds:List Nd}{goal cap:Int}{m j b:Nat}{l:Int}(h:fee nds j=none):scanL (cands nds goal cap (m+1) j) b l=if endAt nds j then none else scanL (cands nds goal cap m (j+1)) b l:=by
 simp only [cands,tri,h,Option.map_none,Option.toList_none,List.nil_append]
 split<;>rfl
section
variable{K:Frag}(F:KF K){H0 H:Hp}{X:Addr→Hp→Prop}{n:Nat}{hd:Bool}{i:Nat}{vs:List V}{nds:List Nd}
include F
theorem f_best(L:Ls H i vs nds){goal cap:Int}(hg:-1000000≤goal∧goal≤1000000)(hc:-100≤cap∧cap≤1073741823){P:V→Hp→Prop}
  (hP:∀ b c H',Pre H H'→choice nds goal cap=some (b,c)→P (.tup [.int (b:Nat),.int c,.int (tot (nds.take b))]) H') (hX:∀ H',Pre H H'→choice nds goal cap=none→X 80 H') :
  R.f (callF K (n+5) hd 711 [.ref i,.int goal,.int cap] [] H) P X:=by
 rw [F.u_711,q_711]
 have hl:=L.lenV
 have hlen:=L.len
 simp only [↓n_bind,↓n_K,↓f_check F L,↓f_cd F (gbig hg),↓f_cd F (cbig hc)]
 refine mk_col F λ H1 c s C1=>?_
 have e1:(vs.length:Int)+1=((nds.length+1:Nat):Int):=congrArg (λ z:Nat=>(z:Int)+1) hl
 simp only [↓n_bind,↓n_K,↓n_add,↓n_range,↓n_len (C1.p _ _ L.h) L.v1000,↓e1]
 rw [n_srcR (srcN (Nat.succ_le_succ (Nat.le_trans hlen (by decide)))),n_K]
 refine n_for (xs:=(List.range (nds.length+1)).map λ(j:Nat)=>V.int (j:Int)) (λ j ρ h=>∃(best:Nat) (least size:Int),BB ρ i c goal cap (best:Int) least size∧Col H h c s (hgt nds cap j) (dpt nds cap j) (ss (nds.take j)) (ks (nds.take j) 0)∧
   j≤nds.length∧choice nds goal cap=scanL (cands nds goal cap (nds.length+1-j) j) best least∧(least=AWFUL∨size=tot (nds.take best))) (λ j ρ h e=>?_) (λ j v ρ h k' hv e hk=>?_) (λ ρ h e=>?_) 200 0 _ _
   ⟨nds.length,AWFUL,0,⟨rfl,rfl,rfl,rfl,by show some (V.int (vs.length:Int))=_;rw [hl],rfl,rfl⟩,C1,Nat.zero_le _,rfl,.inl rfl⟩ (Nat.zero_le _) (by rw [List.length_map,List.length_range];exact Nat.lt_of_le_of_lt (Nat.succ_le_succ hlen) (by decide))
 ·exact at_range
 ·obtain⟨best,least,size,B,C,hj,hch,hsz⟩:=e
  have hvj:v = .int (j:Int):=by
   rw [List.getElem?_map,List.getElem?_range (Nat.lt_succ_of_le hj)] at hv
   simpa using hv.symm
  subst hvj
  have B1:=B.put (x:="place") (by decide +kernel) (.int (j:Int))
  have L':=L.mono C.p
  simp only [↓n_bind,↓n_K,↓n_pure,↓n_lk B1.l1,↓n_lk (lk_self _ _ _),↓f_pen F L' hj]
  obtain⟨m,hm⟩:∃ m,nds.length+1-j=m+1:=⟨nds.length-j,Nat.succ_sub hj⟩
  rw [hm] at hch
  refine n_jp (λ ρ1 h1=>∃(best:Nat) (least size:Int),BB ρ1 i c goal cap (best:Int) least size∧lk "place" ρ1=some (.int (j:Int))∧Col H h1 c s (hgt nds cap j) (dpt nds cap j) (ss (nds.take j)) (ks (nds.take j) 0)∧
   j<nds.length∧choice nds goal cap=(if endAt nds j then none else scanL (cands nds goal cap m (j+1)) best least)∧(least=AWFUL∨size=tot (nds.take best))) ?_ ?_
  ·
   clear hch hsz B B1 C L' hv
   rintro ρ1 h1 ⟨best,least,size,B,lp,C,hj',hch,hsz⟩
   obtain⟨nd,hnd⟩:∃ nd,nds[j]? = some nd:=⟨nds[j],List.getElem?_eq_getElem hj'⟩
   have ho:=L.ok.get hnd
   have L':=L.mono C.p
   obtain⟨v,hv,hn',hgt'⟩:=get_node F L' hnd
   have hn:NdAt H v nd:=by
    obtain⟨v',hv',hn'',_⟩:=get_node F L hnd
    rw [hv] at hv';cases hv';exact hn''
   have hts:=take_snoc hnd
   simp only [↓n_bind,↓n_K,↓n_lk B.l1,↓n_lk lp,↓hgt']
   have e:=λ{P:V→Hp→Prop}{X:Addr→Hp→Prop}=>nd_kind F (X:=X) hn' (P:=P)
   refine n_jp (λ ρ2 h2=>BB ρ2 i c goal cap (best:Int) least size∧∃ a b,Col H h2 c s a b (ss (nds.take (j+1))) (ks (nds.take (j+1)) 0)∧a+b=tot (nds.take (j+1))∧min b cap=low (nds.take (j+1)) cap∧endAt nds j=false) ?_ ?_
   ·rintro ρ2 h2 ⟨B2,a,b,C2,hab,hb,hen⟩
    simp only [↓n_bind,↓n_K,↓n_pure,↓n_methC,↓n_lk B2.l4,↓n_lk B2.l3,↓co_keep F C2.ec]
    refine f_keep F C2 λ h3 C3=>hk ρ2 h3 ⟨best,least,size,B2,?_,hj',?_,hsz⟩
    ·have q1:(if cap<b then a+b-cap else a)=hgt nds cap (j+1):=by
      have h1:hgt nds cap (j+1)=a+b-min b cap:=by
       unfold hgt nat
       rw [if_neg (Nat.succ_ne_zero j),hb,hab]
      rw [h1]
      by_cases q:cap<b
      ·rw [if_pos q,Int.min_eq_right (Int.le_of_lt q)]
      ·rw [if_neg q,Int.min_eq_left (Int.not_lt.mp q)];exact(Int.add_sub_cancel _ _).symm
     have q2:min b cap=dpt nds cap (j+1):=by
      unfold dpt
      rw [if_neg (Nat.succ_ne_zero j),hb]
     rw [←q1,←q2];exact C3
    ·rw [hch,hen,show nds.length+1-(j+1)=m by rw [Nat.add_sub_add_right];exact Nat.succ.inj ((Nat.succ_sub (Nat.le_of_lt hj')).symm.trans hm)];rfl
   ·intro k82 hk82
    have B2:=B.put (x:="node") (by decide +kernel) v
    have hsum:=hd_sum nds cap j
    simp only [↓n_bind,↓n_K,↓n_lk (lk_self _ _ _),↓e]
    rw [n_in (ns:=[2,3,4,14]) rfl]
    have hlow0:∀ x,ownS (own (nds.take j)) nd=x→low (nds.take (j+1)) cap=min x cap:=λ x hx=>by unfold low;simp only [hts,own_snoc,hx]
    cases nd with
    | box k1 w1 h1 d1 sh1=>
     have hen:endAt nds j=false:=by simp [endAt,hnd,Nd.endless]
     rcases ho.1 with rfl | rfl
     all_goals
      simp [Nd.kind,↓n_bind,↓n_K,↓n_pure,↓n_asB,↓n_methC,↓n_ifb,n_iT,↓n_lk B2.l4,↓co_stand F C.ec,↓n_lk (lk_self _ _ _)]
      refine f_stand F C hn rfl λ h3 C3=>?_
      have C4:Col H h3 c s (hgt nds cap j+dpt nds cap j+h1) d1 (ss (nds.take (j+1))) (ks (nds.take (j+1)) 0):=by
       simp only [hts,ss_snoc,ks_snoc];simpa [Nd.st,Nd.sk,Nd.hgt,Nd.dep] using C3
      refine hk82 _ _ ⟨B2,_,_,C4,?_,?_,hen⟩
      ·rw [hts,tot_snoc,←hsum];exact Int.add_assoc _ _ _
      ·simp only [hlow0 _ rfl];rfl
    | rule a1 b1=>
     have hen:endAt nds j=false:=by simp [endAt,hnd,Nd.endless]
     simp [Nd.kind,↓n_bind,↓n_K,↓n_pure,↓n_asB,↓n_methC,↓n_ifb,n_iT,↓n_lk B2.l4,↓co_stand F C.ec,↓n_lk (lk_self _ _ _)]
     refine f_stand F C hn rfl λ h3 C3=>?_
     have C4:Col H h3 c s (hgt nds cap j+dpt nds cap j+a1.getD 0) (b1.getD 0) (ss (nds.take (j+1))) (ks (nds.take (j+1)) 0):=by
      simp only [hts,ss_snoc,ks_snoc];simpa [Nd.st,Nd.sk,Nd.hgt,Nd.dep] using C3
     refine hk82 _ _ ⟨B2,_,_,C4,?_,?_,hen⟩
     ·rw [hts,tot_snoc,←hsum];exact Int.add_assoc _ _ _
     ·simp only [hlow0 _ rfl];rfl
    | kern w1=>
     have hen:endAt nds j=false:=by simp [endAt,hnd,Nd.endless]
     simp [Nd.kind,↓n_jpE,↓n_bind,↓n_K,↓n_pure,↓n_asB,↓n_methC,↓n_eqI,↓n_ifb,n_iT,n_iF,↓n_lk B2.l4,↓co_flow F C.ec,↓n_lk (lk_self _ _ _),↓e]
     refine f_flowK F C hn λ h3 C3=>?_
     have C4:Col H h3 c s (hgt nds cap j+dpt nds cap j+w1) 0 (ss (nds.take (j+1))) (ks (nds.take (j+1)) 0):=by
      simp only [hts,ss_snoc,ks_snoc];simpa [Nd.st,Nd.sk] using C3
     refine hk82 _ _ ⟨B2,_,_,C4,?_,?_,hen⟩
     ·rw [hts,tot_snoc,←hsum];exact Int.add_zero _
     ·simp only [hlow0 _ rfl];rfl
    | skip g s1=>
     simp [Nd.kind,↓n_jpE,↓n_bind,↓n_K,↓n_pure,↓n_asB,↓n_methC,↓n_eqI,↓n_ifb,n_iT,n_iF,↓n_lk B2.l4,↓co_flow F C.ec,↓n_lk (lk_self _ _ _),↓e]
     by_cases hko:g.ko=0
     ·have hen:endAt nds j=false:=by simp [endAt,hnd,Nd.endless,hko]
      refine f_flow F C hn hko ho.1.2.2.1 λ h3 C3=>?_
      have C4:Col H h3 c s (hgt nds cap j+dpt nds cap j+g.w) 0 (ss (nds.take (j+1))) (ks (nds.take (j+1)) 0):=by
       rw [hts,←addAt_ss,ks_snoc]
       simpa [Nd.sk,hko] using C3
      refine hk82 _ _ ⟨B2,_,_,C4,?_,?_,hen⟩
      ·rw [hts,tot_snoc,←hsum];exact Int.add_zero _
      ·simp only [hlow0 _ rfl];rfl
     ·have hen:endAt nds j=true:=by simp [endAt,hnd,Nd.endless,hko]
      exact f_flowX F C hn hko (hX _ C.p (by rw [hch,hen];rfl))
    | _=>
     have hen:endAt nds j=false:=by simp [endAt,hnd,Nd.endless]
     simp [Nd.kind,↓n_jpE,↓n_bind,↓n_K,↓n_pure,↓n_asB,↓n_eqI,↓n_ifb,n_iF,↓n_lk (lk_self _ _ _),↓e]
     refine hk82 _ _ ⟨B2,hgt nds cap j,dpt nds cap j,?_,?_,?_,hen⟩
     ·simp only [hts,ss_snoc,ks_snoc];simpa [Nd.st,Nd.sk] using C
     ·rw [hts,tot_snoc,←hsum];exact(Int.add_zero _).symm
     ·simp only [hlow0 _ rfl]
      simp only [ownS]
      unfold dpt low
      split
      ·rename_i hz;rw [hz];rfl
      ·exact minmin
  ·
   intro k20 hk20
   have B2:=B1.put (x:="penalty") (by decide +kernel) (oV (pen nds j))
   have lp2:lk "place" (put "penalty" (oV (pen nds j)) (put "place" (.int (j:Int)) ρ))=some (.int (j:Int)):=by rw [lk_ne (by decide +kernel),lk_self]
   cases hf:fee nds j with
   | none=>
    rw [scan_none hf] at hch
    have hj':j<nds.length:=by
     rcases Nat.lt_or_ge j nds.length with q | q
     ·exact q
     ·have:j=nds.length:=Nat.le_antisymm hj q
      subst this
      simp [fee,pen] at hf
    have hk:=hk20 _ _ ⟨best,least,size,B2,lp2,C,hj',hch,hsz⟩
    unfold fee at hf
    cases hp:pen nds j with
    | none=>
     rw [hp] at hk
     simpa [↓n_bind,↓n_K,↓n_pure,↓n_asB,↓n_ifb,n_iF,Bool.not_true,↓n_lk (lk_self _ _ _),oV,↓n_isnot sN,isN_n] using hk
    | some w=>
     rw [hp] at hf hk
     have hw:¬ w<10000:=λ q=>by simp [q] at hf
     simpa [↓n_bind,↓n_K,↓n_pure,↓n_asB,↓n_lt,↓n_ifb,n_iT,n_iF,Bool.not_false,↓n_lk (lk_self _ _ _),oV,↓n_isnot sI,isN_i,hw] using hk
   | some w=>
    obtain⟨hw,hp⟩:=fee_lt hf
    rw [scan_some w hf] at hch
    rw [hp] at B2 lp2
    rw [hp]
    have B2:BB (put "penalty" (.int w) (put "place" (.int (j:Int)) ρ)) i c goal cap (best:Int) least size:=B2
    have hltk:(nds.take j).length≤nds.length:=List.length_take_le' _ _
    have hgj:-100000≤hgt nds cap j∧hgt nds cap j≤100000:=by
     unfold hgt nat low
     split
     ·exact⟨by decide,by decide⟩
     ·exact tm_le (L.ok.take j) (Nat.le_trans hltk hlen) hc.1
    have hss:=ss_le (L.ok.take j) 0
    have hks:=ks_le (L.ok.take j) 0
    have ech:=λ{P:V→Hp→Prop}{X:Addr→Hp→Prop}=>f_chere F (n:=n+1) (hd:=hd) C (goal:=goal) (pen:=w) (wid (isub hg hgj) (by decide) (by decide)) (s63 hss (Nat.le_trans hltk hlen)).2 (s63 hks (Nat.le_trans hltk hlen)).2 (P:=P) (X:=X)
    have epr:chere (hgt nds cap j) (ss (nds.take j)) (ks (nds.take j) 0) goal w=price nds goal cap j w:=rfl
    rw [epr] at ech
    have hple:price nds goal cap j w≤AWFUL:=chere_le hw
    generalize price nds goal cap j w=c1 at ech hch hple
    simp only [↓n_bind,↓n_K,↓n_pure,↓n_asB,↓n_lt,↓n_ifb,n_iT,Bool.not_false,↓n_lk (lk_self _ _ _),oV,↓n_isnot sI,isN_i,Bool.not_false,true_implies,Bool.true_eq_false,Bool.false_eq_true,false_implies,and_true,true_and,hw,decide_true,↓n_lk B2.l4,↓n_lk B2.l2,↓ech]
    have B3:=B2.put (x:="cost") (by decide +kernel) (.int c1)
    have lp3:lk "place" (put "cost" (.int c1) (put "penalty" (.int w) (put "place" (.int (j:Int)) ρ)))=some (.int (j:Int)):=by rw [lk_ne (by decide +kernel)];exact lp2
    have lq3:lk "penalty" (put "cost" (.int c1) (put "penalty" (.int w) (put "place" (.int (j:Int)) ρ)))=some (.int w):=by rw [lk_ne (by decide +kernel),lk_self]
    have lc3:lk "cost" (put "cost" (.int c1) (put "penalty" (.int w) (put "place" (.int (j:Int)) ρ)))=some (.int c1):=lk_self _ _ _
    show R.f (jp _ _ _) _ _
    generalize put "cost" (.int c1) (put "penalty" (.int w) (put "place" (.int (j:Int)) ρ))=ρ3 at B3 lp3 lq3 lc3
    refine n_jp (λ ρ4 h4=>h4=h∧∃(best':Nat) (least' size':Int),BB ρ4 i c goal cap (best':Int) least' size'∧lk "place" ρ4=some (.int (j:Int))∧lk "penalty" ρ4=some (.int w)∧lk "cost" ρ4=some (.int c1)∧
     (best'=if c1≤least then j else best)∧(least'=if c1≤least then c1 else least)∧size'=tot (nds.take best')) ?_ ?_
    ·rintro ρ4 h4 ⟨rfl,best',least',size',B4,lp4,lq4,lc4,hb',hl',hs'⟩
     simp only [↓n_jpE,↓n_bind,↓n_K,↓n_pure,↓n_asB,↓n_le,↓n_eqI,↓n_ifb,n_iT,n_iD,↓n_lk lc4,↓n_lk lq4,↓n_lk B4.l5,↓n_lk B4.l6,↓n_lk B4.l7]
     have hret:(c1=AWFUL∨w≤-10000)→P (.tup [.int (best':Int),.int least',.int size']) h4:=λ q=>by
      rw [if_pos q] at hch
      rw [hs']
      refine hP best' least' h4 C.p ?_
      simp only [hch,hb',hl']
      split<;>rfl
     have hcont:¬(c1=AWFUL∨w≤-10000)→R.f (k20 ρ4 h4) (Kf P) X:=λ q=>by
      rw [if_neg q] at hch
      refine hk20 _ _ ⟨best',least',size',B4,lp4,C,?_,?_,.inr hs'⟩
      ·rcases Nat.lt_or_ge j nds.length with z | z
       ·exact z
       ·have:j=nds.length:=Nat.le_antisymm hj z
        subst this
        simp [pen] at hp
        subst hp
        exact absurd (.inr (Int.le_refl _)) q
      ·simp only [hch,hb',hl']
     by_cases q1:c1=1073741823
     ·have:=hret (.inl q1)
      simpa [q1,↓n_K,↓n_Kr,↓n_pure] using this
     ·by_cases q2:w≤-10000
      ·have:=hret (.inr q2)
       simpa [q1,q2,↓n_K,↓n_Kr,↓n_pure] using this
      ·have:=hcont λ z=>z.elim q1 q2
       simpa [q1,q2,↓n_K,↓n_Kr,↓n_pure] using this
    ·intro k39 hk39
     simp only [↓n_bind,↓n_K,↓n_pure,↓n_asB,↓n_le,↓n_add,↓n_ifb,n_iD,↓n_lk lc3,↓n_lk B3.l6,↓n_lk lp3,↓n_lk B3.l4,↓co_h F C.ec,↓co_d F C.ec]
     by_cases q:c1≤least
     ·have:=hk39 _ _ ⟨rfl,j,c1,hgt nds cap j+dpt nds cap j,B3.put3 (j:Int) c1 (hgt nds cap j+dpt nds cap j),?_,?_,?_,(by rw [if_pos q]),(by rw [if_pos q]),hd_sum nds cap j⟩
      ·simpa [q,↓n_K,↓n_pure,↓n_un3] using this
      ·rw [lk_ne (by decide +kernel),lk_ne (by decide +kernel),lk_ne (by decide +kernel)];exact lp3
      ·rw [lk_ne (by decide +kernel),lk_ne (by decide +kernel),lk_ne (by decide +kernel)];exact lq3
      ·rw [lk_ne (by decide +kernel),lk_ne (by decide +kernel),lk_ne (by decide +kernel)];exact lc3
     ·have hs2:size=tot (nds.take best):=by
       rcases hsz with z | z
       ·rw [z] at q;exact absurd hple q
       ·exact z
      have:=hk39 _ _ ⟨rfl,best,least,size,B3,lp3,lq3,lc3,(by rw [if_neg q]),(by rw [if_neg q]),hs2⟩
      simpa [q,↓n_K,↓n_pure,↓n_un3] using this
 ·obtain⟨best,least,size,B,C,hj,hch,hsz⟩:=e
  exact absurd hj (by simp)
theorem f_vert(L:Ls H i vs nds){goal cap:Int}(hg:-1000000≤goal∧goal≤1000000)(hc:-100≤cap∧cap≤1073741823){P:V→Hp→Prop}
  (hP:∀ b c H',Pre H H'→choice nds goal cap=some (b,c)→P (.tup [.int (b:Nat),.int c]) H') (hX:∀ H',Pre H H'→choice nds goal cap=none→X 80 H') :
  R.f (callF K (n+6) hd 718 [.ref i,.int goal,.int cap] [] H) P X:=by
 rw [F.u_718]
 simp only [↓n_bind]
 refine f_best F L hg hc (λ b c H' p e=>?_) hX
 simp only [n_K,n_bind,n_sliceT (by simp) rfl rfl]
 exact hP b c H' p e
end
end VW.Internal
end
section
open PySem PySem.W PySem.SeqAt
set_option backward.match.sparseCases false
set_option maxRecDepth 100000
namespace VW.Internal
open VS.Internal
theorem cut_take{xs:List V}{j:Nat}(h:j≤xs.length):cutL none (some (j:Int)) xs=xs.take j:=by
 unfold cutL kms_lo kms_hi
 dsimp only
 rw [if_neg (Int.not_lt.mpr (Int.natCast_nonneg j))]
 simp [Nat.min_eq_left h]
theorem cut_drop{xs:List V}{j:Nat}(h:j≤xs.length):cutL (some (j:Int)) none xs=xs.drop j:=by
 unfold cutL kms_lo kms_hi
 dsimp only
 rw [if_neg (Int.not_lt.mpr (Int.natCast_nonneg j))]
 rw [Int.toNat_natCast,Nat.min_eq_left h]
 exact List.take_of_length_le (by simp)
theorem pt_int{i:Int}:partI (.int i)=some (some i):=rfl
theorem pt_none:partI .none=some none:=rfl
noncomputable def okT(g:Gl):Prop:=okG g∧(g.s=0→g.so=0)∧(g.k=0→g.ko=0)
noncomputable def room(t:Gl)(h:Int):Gl:=⟨max 0 (t.w-h),t.s,t.so,t.k,t.ko⟩
noncomputable def Nd.stay(nd:Nd):Bool:=nd.kind==9||(nd.kind==10||nd.kind==13)
noncomputable def prune(t:Gl):List Nd→List Nd
 | []=>[]
 | nd::r=>if nd.std then .skip (room t (nd.hgt.getD 0)) 108::nd::r else if nd.stay then nd::prune t r else prune t r
noncomputable def marks(nds:List Nd):List V:=nds.filterMap λ nd=>match nd with
 | .mark t=>some (mkV t)
 | _=>none
noncomputable def emk(nds:List Nd):V:=match marks nds with
 | []=>.tup [.tup [],.tup []]
 | m::r=>.tup [m,(m::r).getLast (by simp)]
theorem room_nrm{t:Gl}(h:okT t)(x:Int):nrm ⟨max 0 (t.w-x),t.s,t.so,t.k,t.ko⟩=room t x:=by
 unfold nrm room
 by_cases h1:t.s=0<;>by_cases h2:t.k=0<;>simp [h1,h2,h.2.1,h.2.2]
theorem room_ok{t:Gl}(h:okT t){x:Int}(hx:0≤x):okG (room t x):=by
 exact⟨⟨Int.le_trans (by decide) (Int.le_max_left ..),Int.max_le.mpr ⟨by decide,Int.le_trans (Int.sub_le_self _ hx) h.1.1.2⟩⟩,h.1.2⟩
theorem hgt_nn{nd:Nd}(h:nd.ok):0≤nd.hgt.getD 0∧nd.hgt.getD 0≤100:=by
 cases nd with
 | box=>exact h.2.2.1
 | rule a b=>
  rcases h.1 with rfl | rfl
  ·exact(by decide:(0:Int)≤0∧(0:Int)≤100)
  ·exact(by decide:(0:Int)≤3∧(3:Int)≤100)
 | _=>exact(by decide:(0:Int)≤0∧(0:Int)≤100)
theorem prune_len{t:Gl}{nds:List Nd}:(prune t nds).length≤nds.length+1:=by
 induction nds with
 | nil=>exact Nat.zero_le _
 | cons nd r ih=>
  show(if nd.std then .skip (room t (nd.hgt.getD 0)) 108::nd::r else if nd.stay then nd::prune t r else prune t r).length≤_
  cases nd.std with
  | true=>exact Nat.le_refl _
  | false=>cases nd.stay with
   | true=>exact Nat.succ_le_succ ih
   | false=>exact Nat.le_succ_of_le ih
structure PB(ρ:Lo)(i tp kp:Nat):Prop where
 l1:lk "items" ρ=some (.ref i)
 l2:lk "top" ρ=some (.ref tp)
 l3:lk "kept" ρ=some (.ref kp)
theorem PB.put{ρ:Lo}{i tp kp:Nat}(B:PB ρ i tp kp){x:PySem.Str}(h:((x == "items")||(x == "top")||(x == "kept"))=false) (v:V):PB (put x v ρ) i tp kp:=by
 simp only [Bool.or_eq_false_iff] at h
 exact⟨(lk_ne h.1.1 ρ).trans B.l1,(lk_ne h.1.2 ρ).trans B.l2,(lk_ne h.2 ρ).trans B.l3⟩
section
variable{K:Frag}(F:KF K){H0 H:Hp}{X:Addr→Hp→Prop}{n:Nat}{hd:Bool}{i:Nat}{vs:List V}{nds:List Nd}
include F
theorem f_ptail(L:Ls H i vs nds){tp:Nat}{t:Gl}(ht:H[tp]? = some (glO t))(hto:okT t)(hl50:nds.length≤90){P:V→Hp→Prop}
  (hP:∀ H' i' vs',Pre H H'→Ls H' i' vs' (prune t nds)→P (.ref i') H') {h:Hp}{ks:List V}{kn:List Nd}{ρ2:Lo}{j:Nat}{nd:Nd} (hp:Pre H h) (hks:h[H.length]? = some (.list ks)) (ha:All2 (NdAt H) ks kn) (hkl:kn.length≤j) (hko:oks kn)
  (hdr:nds.drop j=nd::nds.drop (j+1)) (hj:j<nds.length) (B2:PB ρ2 i tp H.length) (lp2:lk "place" ρ2=some (.int (j:Int))) (hh:0≤nd.hgt.getD 0∧nd.hgt.getD 0≤100)
  (hpr:prune t nds=kn ++ .skip (room t (nd.hgt.getD 0)) 108::nd::nds.drop (j+1)) (hv:Int) (ehv:hv=nd.hgt.getD 0):R.f (c_725_6 K (callF K (n+3) hd) ρ2 (.int hv) h) (Kf P) X:=by
 have hl:=L.lenV
 have hn1000:vs.length≤1000:=L.v1000
 have B3:=B2.put (x:="height") (by decide +kernel) (.int hv)
 have lp3:lk "place" (put "height" (.int hv) ρ2)=some (.int (j:Int)):=by rw [lk_ne (by decide +kernel)];exact lp2
 have lh3:lk "height" (put "height" (.int hv) ρ2)=some (.int hv):=lk_self _ _ _
 show R.f (M.bind _ _ _) _ _
 generalize put "height" (.int hv) ρ2=ρ3 at B3 lp3 lh3 ⊢
 have et:=hp _ _ ht
 have hto1:=hto.1
 unfold okG at hto1
 simp only [↓n_bind,↓n_K,↓n_pure,↓n_sub,↓n_max,↓n_lk B3.l2,↓n_lk lh3,↓gl_w F et,↓gl_s F et,↓gl_so F et,↓gl_k F et,↓gl_ko F et]
 rw [ehv,mk_gl F (wid (room_ok hto hh.1).1 (by decide) (by decide):-1073741823≤max 0 (t.w-nd.hgt.getD 0)∧max 0 (t.w-nd.hgt.getD 0)≤1073741823) (wid hto1.2.1 (by decide) (by decide)) (wid hto1.2.2.2.1 (by decide) (by decide)) hto1.2.2.1 (koL hto1.2.2.2.2),room_nrm hto]
 dsimp only [↓n_K]
 have B4:=λ u=>B3.put (x:="room") (by decide +kernel) u
 have lp4:∀ u,lk "place" (put "room" u ρ3)=some (.int (j:Int)):=λ u=>by rw [lk_ne (by decide +kernel)];exact lp3
 simp only [↓n_bind,↓n_K,↓n_pure,↓n_add,↓n_lk (B4 _).l3,↓n_lk (lk_self _ _ _),show((100:Int)+8)=108 from rfl]
 rw [mk_skip F (.inr rfl)]
 simp only [↓n_K,↓n_pure]
 rw [n_tup (by simp)]
 simp only [↓n_K,↓n_alloc]
 have hkl':=ha.length
 have hv90:vs.length≤90:=Nat.le_trans (Nat.le_of_eq hl) hl50
 have hk90:ks.length≤90:=Nat.le_trans (Nat.le_of_eq hkl') (Nat.le_trans hkl (Nat.le_trans (Nat.le_of_lt hj) hl50))
 have p1:=(((hp.app' [glO (room t (nd.hgt.getD 0))]).app' [skipO (.ref h.length) 108]))
 have hks1:(h++[glO (room t (nd.hgt.getD 0))]++[skipO (.ref h.length) 108]++[.list [.ref (h++[glO (room t (nd.hgt.getD 0))]).length]])[H.length]? = some (.list ks):=Pre.app _ _ _ _ (Pre.app _ _ _ _ (Pre.app _ _ _ _ hks))
 rw [n_addL hks1 at_last (Nat.le_trans (Nat.succ_le_succ hk90) (by decide))]
 simp only [↓n_bind,↓n_K,↓n_lk (B4 _).l1,↓n_lk (lp4 _)]
 generalize hHH:h++[glO (room t (nd.hgt.getD 0))]++[skipO (.ref h.length) 108]++[.list [.ref (h++[glO (room t (nd.hgt.getD 0))]).length]]=HH at hks1
 have pHH:Pre (h++[glO (room t (nd.hgt.getD 0))]++[skipO (.ref h.length) 108]) HH:=by rw [←hHH];exact .app _ _
 have pH2:Pre H (HH++[.list (ks++[.ref (h++[glO (room t (nd.hgt.getD 0))]).length])]):=(p1.trans pHH).app' _
 rw [n_sliceL (pH2 _ _ L.h) hn1000 pt_int pt_none,cut_drop (Nat.le_trans (Nat.le_of_lt hj) (Nat.le_of_eq hl.symm))]
 simp only [↓n_K]
 rw [n_addL (Pre.app _ _ _ _ at_last) at_last (by rw [List.length_append,List.length_drop];exact Nat.le_trans (Nat.add_le_add (Nat.succ_le_succ hk90) (Nat.le_trans (Nat.sub_le _ _) hv90)) (by decide))]
 have hlen2:(kn++Nd.skip (room t (nd.hgt.getD 0)) 108::nds.drop j).length≤100:=by
  rw [List.length_append,List.length_cons,List.length_drop]
  exact Nat.le_trans (Nat.add_le_add_right hkl (nds.length-j+1)) (Nat.le_trans (Nat.le_of_eq (congrArg Nat.succ (Nat.add_sub_of_le (Nat.le_of_lt hj)))) (Nat.le_trans (Nat.succ_le_succ hl50) (by decide)))
 have hok2:oks (kn++Nd.skip (room t (nd.hgt.getD 0)) 108::nds.drop j):=λ x hx=>by
  rcases List.mem_append.mp hx with hx | hx
  ·exact hko x hx
  ·rcases List.mem_cons.mp hx with rfl | hx
   ·exact⟨room_ok hto hh.1,.inr rfl⟩
   ·exact L.ok.drop j x hx
 rw [←hdr] at hpr
 have pf:=(pH2.app' [.list (vs.drop j)]).app' [.list (ks++[.ref (h++[glO (room t (nd.hgt.getD 0))]).length]++vs.drop j)]
 have pg:Pre (h++[glO (room t (nd.hgt.getD 0))]++[skipO (.ref h.length) 108]) (HH++[.list (ks++[.ref (h++[glO (room t (nd.hgt.getD 0))]).length])]++[.list (vs.drop j)]++[.list (ks++[.ref (h++[glO (room t (nd.hgt.getD 0))]).length]++vs.drop j)]):=(((pHH.app' _).app' _).app' _)
 have q1:=pg _ _ (at_last (H:=h++[glO (room t (nd.hgt.getD 0))]))
 have q2:=pg _ _ (Pre.app _ [skipO (.ref h.length) 108] _ _ (at_last (H:=h) (o:=glO (room t (nd.hgt.getD 0)))))
 refine hP _ _ (ks++[.ref (h++[glO (room t (nd.hgt.getD 0))]).length]++vs.drop j) pf ⟨at_last,?_,?_,?_⟩
 ·simp only [hpr]
  have a1:All2 (NdAt (HH++[.list (ks++[.ref (h++[glO (room t (nd.hgt.getD 0))]).length])]++[.list (vs.drop j)]++[.list (ks++[.ref (h++[glO (room t (nd.hgt.getD 0))]).length]++vs.drop j)])) [.ref (h++[glO (room t (nd.hgt.getD 0))]).length] [Nd.skip (room t (nd.hgt.getD 0)) 108]:=.cons ⟨_,rfl,_,q1,_,rfl,q2⟩ .nil
  have:=((ha.mono λ _ _ q=>q.mono pf).append a1).append ((L.a.drop j).mono λ _ _ q=>q.mono pf)
  simpa using this
 ·rw [hpr];exact hok2
 ·rw [hpr];exact hlen2
theorem f_pruned(L:Ls H i vs nds){tp:Nat}{t:Gl}(ht:H[tp]? = some (glO t))(hto:okT t)(hl50:nds.length≤90){P:V→Hp→Prop}
  (hP:∀ H' i' vs',Pre H H'→Ls H' i' vs' (prune t nds)→P (.ref i') H'):R.f (callF K (n+4) hd 725 [.ref i,.ref tp] [] H) P X:=by
 rw [F.u_725]
 have hl:=L.lenV
 have hn1000:vs.length≤1000:=L.v1000
 simp only [↓n_bind,↓n_K,↓n_alloc,↓n_range,↓n_len (Pre.app _ _ _ _ L.h) hn1000]
 rw [hl,n_srcR (srcN (Nat.le_trans L.len (by decide)))]
 dsimp only [↓n_K]
 refine n_for (xs:=(List.range nds.length).map λ(j:Nat)=>V.int (j:Int)) (λ j ρ h=>∃ ks kn,PB ρ i tp H.length∧Pre H h∧h[H.length]? = some (.list ks)∧All2 (NdAt H) ks kn∧prune t nds=kn++prune t (nds.drop j)∧kn.length≤j∧oks kn) (λ j ρ h e=>?_) (λ j v ρ h k' hv e hk=>?_) (λ ρ h e=>?_) 200 0 _ _
   ⟨[],[],⟨rfl,rfl,rfl⟩,.app _ _,at_last,.nil,rfl,Nat.le_refl _,λ _ h=>by cases h⟩ (Nat.zero_le _) (by rw [List.length_map,List.length_range];exact Nat.lt_of_le_of_lt L.len (by decide))
 ·exact at_range
 ·obtain⟨ks,kn,B,hp,hks,ha,hpr,hkl,hko⟩:=e
  have hj:j<nds.length:=by
   have:=(List.getElem?_eq_some_iff.mp hv).1
   simpa using this
  have hvj:v = .int (j:Int):=by
   rw [List.getElem?_map,List.getElem?_range hj] at hv
   simpa using hv.symm
  subst hvj
  obtain⟨nd,hnd⟩:∃ nd,nds[j]? = some nd:=⟨nds[j],List.getElem?_eq_getElem hj⟩
  have ho:=L.ok.get hnd
  obtain⟨v,hv',hn',hgt'⟩:=get_node F (L.mono hp) hnd
  have hn:NdAt H v nd:=by
   obtain⟨v',hv'',hn'',_⟩:=get_node F L hnd
   rw [hv'] at hv'';cases hv'';exact hn''
  have hdr:nds.drop j=nd::nds.drop (j+1):=by
   have:=List.getElem?_eq_some_iff.mp hnd
   obtain⟨h1,h2⟩:=this
   rw [←h2];exact List.drop_eq_getElem_cons h1
  have e:=λ{P:V→Hp→Prop}{X:Addr→Hp→Prop}=>nd_kind F (X:=X) hn' (P:=P)
  have B1:=B.put (x:="place") (by decide +kernel) (.int (j:Int))
  have B2:=B1.put (x:="node") (by decide +kernel) v
  have lp2:lk "place" (put "node" v (put "place" (.int (j:Int)) ρ))=some (.int (j:Int)):=by rw [lk_ne (by decide +kernel),lk_self]
  have ln2:lk "node" (put "node" v (put "place" (.int (j:Int)) ρ))=some v:=lk_self _ _ _
  simp only [↓n_bind,↓n_K,↓n_lk B1.l1,↓n_lk (lk_self _ _ _),↓hgt']
  show R.f (jp _ _ _) _ _
  generalize put "node" v (put "place" (.int (j:Int)) ρ)=ρ2 at B2 lp2 ln2 ⊢
  refine n_jp (λ ρ3 h3=>h3=h∧ρ3=ρ2∧nd.std=false) ?_ ?_
  ·rintro ρ3 h3 ⟨rfl,rfl,hstd⟩
   simp only [↓n_jpE,↓n_bind,↓n_K,↓n_pure,↓n_asB,↓n_eqI,↓n_ifb,n_iT,n_iD,↓n_lk ln2,↓n_lk B2.l3,↓e]
   have hH:H.length≠0:=Nat.ne_of_gt (Nat.lt_of_le_of_lt (Nat.zero_le _) (lt_of L.h))
   have hpr':prune t (nd::nds.drop (j+1))=if nd.stay then nd::prune t (nds.drop (j+1)) else prune t (nds.drop (j+1)):=by simp [prune,hstd]
   rw [hdr,hpr'] at hpr
   have yes:nd.stay=true→R.f (k' ρ3 (h3.set H.length (.list (ks++[v])))) (Kf P) X:=λ hs=>by
    rw [if_pos hs] at hpr
    refine hk _ _ ⟨ks++[v],kn++[nd],B2,hp.set (Nat.le_refl _),set_at hks,ha.append (.cons hn .nil),by rw [hpr];simp,by rw [List.length_append];exact Nat.succ_le_succ hkl,λ x hx=>?_⟩
    rcases List.mem_append.mp hx with hx | hx
    ·exact hko x hx
    ·simp at hx;rw [hx];exact ho
   have no:nd.stay=false→R.f (k' ρ3 h3) (Kf P) X:=λ hs=>by
    rw [hs,if_neg (by simp)] at hpr
    exact hk _ _ ⟨ks,kn,B2,hp,hks,ha,hpr,Nat.le_succ_of_le hkl,hko⟩
   have hkl':=ha.length
   have m1:=λ{P:Mk→Hp→Prop}{X:Addr→Hp→Prop}=>n_methA hks (K:=K) hH (P:=P) (X:=X)
   have m2:=λ{P:V→Hp→Prop}{X:Addr→Hp→Prop}=>n_app hks (Nat.le_trans (Nat.le_of_eq hkl') (Nat.le_trans hkl (Nat.le_trans (Nat.le_of_lt hj) (Nat.le_trans L.len (by decide))))) (call:=callF K (n+3) hd) (v:=v) (P:=P) (X:=X)
   cases nd with
   | box=>exact nomatch hstd
   | rule=>cases hstd
   | mark=>simpa [Nd.kind,↓n_bind,↓n_K,↓n_pure,↓e,m1,m2,↓n_lk ln2] using yes rfl
   | ins=>simpa [Nd.kind,↓n_bind,↓n_K,↓n_pure,↓e,m1,m2,↓n_lk ln2] using yes rfl
   | spec=>simpa [Nd.kind,↓n_bind,↓n_K,↓n_pure,↓e,m1,m2,↓n_lk ln2] using yes rfl
   | _=>simpa [Nd.kind,↓e,↓n_lk ln2] using no rfl
  ·intro k11 hk11
   simp only [↓n_bind,↓n_K,↓n_lk ln2,↓e]
   rw [n_in (ns:=[2,3,4,14]) rfl]
   have hkin:([2,3,4,14]:List Int).any (· == nd.kind)=nd.std:=by
    cases nd with
    | box=>rcases ho.1 with rfl | rfl<;>rfl
    | _=>rfl
   simp only [hkin]
   simp only [↓n_bind,↓n_K,↓n_pure,↓n_asB,↓n_ifb]
   simp only [n_iU]
   refine⟨λ hstd=>?_,λ hstd=>hk11 ρ2 h ⟨rfl,rfl,hstd⟩⟩
   have eh:=λ{P:V→Hp→Prop}{X:Addr→Hp→Prop}=>nd_height F (X:=X) hn' hstd (P:=P)
   have hh:=hgt_nn ho
   have hpr':prune t (nd::nds.drop (j+1)) = .skip (room t (nd.hgt.getD 0)) 108::nd::nds.drop (j+1):=by simp [prune,hstd]
   rw [hdr,hpr'] at hpr
   have tail:=f_ptail F (X:=X) (n:=n) (hd:=hd) L ht hto hl50 hP hp hks ha hkl hko hdr hj B2 lp2 hh hpr
   cases ehh:nd.hgt with
   | none=>
    rw [ehh] at eh
    simp [↓n_bind,↓n_K,↓n_pure,↓n_asB,↓n_ifb,n_iT,↓n_lk ln2,↓eh,oV,↓n_is sN,isN_n]
    exact tail 0 (by rw [ehh];rfl)
   | some x=>
    rw [ehh] at eh
    simp [↓n_bind,↓n_K,↓n_pure,↓n_asB,↓n_ifb,n_iF,↓n_lk ln2,↓eh,oV,↓n_is sI,isN_i]
    exact tail x (by rw [ehh];rfl)
 ·obtain⟨ks,kn,B,hp,hks,ha,hpr,hkl,hko⟩:=e
  simp only [↓n_bind,↓n_K,↓n_Kr,↓n_pure,↓n_lk B.l3]
  simp only [List.length_map,List.length_range,List.drop_length,prune,List.append_nil] at hpr hkl
  exact hP _ _ ks hp ⟨hks,by simp only [hpr];exact ha.mono λ _ _ q=>q.mono hp,by rw [hpr];exact hko,by rw [hpr];exact Nat.le_trans hkl L.len⟩
end
end VW.Internal
end
section
open PySem PySem.W PySem.SeqAt
set_option backward.match.sparseCases false
set_option maxRecDepth 100000
namespace VW.Internal
open VS.Internal
noncomputable def mtok(nd:Nd):Option V:=match nd with
 | .mark t=>some (mkV t)
 | _=>none
theorem marks_eq(nds:List Nd):marks nds=nds.filterMap mtok:=rfl
theorem idx_m1{n:Nat}(h:0<n):idx (-1) n=some (n-1):=by
 unfold idx
 rw [if_neg (by decide),if_pos (show -(n:Int)≤-1 from Int.neg_le_neg (Int.ofNat_le.mpr h))]
 obtain⟨k,rfl⟩:∃ k,n=k+1:=⟨n-1,(Nat.succ_pred_eq_of_pos h).symm⟩
 congr 1
 show(-1+((k:Int)+1)).toNat=k
 rw [Int.add_comm,Int.add_neg_cancel_right];rfl
theorem idx_0{n:Nat}(h:0<n):idx 0 n=some 0:=by
 unfold idx
 rw [if_pos (Int.le_refl 0),if_pos (show(0:Int)<n from Int.ofNat_lt.mpr h)];rfl
structure Bx(H:Hp)(b i:Nat)(vs:List V)(nds:List Nd)(w h d sg od:Int)(x:Int × Int):Prop where
 e:H[b]? = some (boxO 3 w h d (.ref i) 0 sg od (pr x))
 L:Ls H i vs nds
theorem Bx.mono{H H':Hp}{b i:Nat}{vs:List V}{nds:List Nd}{w h d sg od:Int}{x:Int × Int}(B:Bx H b i vs nds w h d sg od x)(p:Pre H H'):Bx H' b i vs nds w h d sg od x:=⟨p _ _ B.e,B.L.mono p⟩
noncomputable def repA(nds:List Nd)(goal cap:Int):Int × Int:=if nds.isEmpty then(0,0) else rep (ss nds) (ks nds) (goal-nat nds cap)
noncomputable def RestAt(H:Hp)(v:V)(nds:List Nd)(most:Int):Prop:=(nds=[]∧v = .none)∨(nds≠[]∧∃ b i vs w,v = .ref b∧Bx H b i vs nds w (nat nds most) (low nds most) 0 0 ((0:Int),(1:Int)))
theorem RestAt.mono{H H':Hp}{v:V}{nds:List Nd}{most:Int}(R:RestAt H v nds most)(p:Pre H H'):RestAt H' v nds most:=by
 rcases R with h | ⟨h,b,i,vs,w,rfl,B⟩
 ·exact .inl h
 ·exact .inr ⟨h,b,i,vs,w,rfl,B.mono p⟩
theorem scan_le{N:Nat}:∀{L:List (Nat × Int × Bool)}{b:Nat}{l:Int}{j:Nat}{c:Int},(∀ p∈L,p.1≤N)→b≤N→scanL L b l=some (j,c)→j≤N
 | [],_,_,_,_,_,_,h=>by exact no_some h
 | (j0,c0,e)::r,b,l,j,c,hL,hb,h=>by
  have h0:j0≤N:=hL (j0,c0,e) (.head _)
  simp only [scanL] at h
  split at h
  ·split at h
   ·cases h;exact h0
   ·cases h;exact hb
  ·refine scan_le (λ p hp=>hL p (.tail _ hp)) ?_ h
   split<;>assumption
theorem cands_lt{nds:List Nd}{goal cap:Int}:∀{m j:Nat},∀ p∈cands nds goal cap m j,p.1<j+m
 | 0,_,p,h=>by cases h
 | m+1,j,p,h=>by
  rcases List.mem_append.mp h with h | h
  ·unfold tri at h
   cases hf:fee nds j with
   | none=>rw [hf] at h;simp at h
   | some v=>rw [hf] at h;simp at h;rw [h];simp
  ·split at h
   ·exact nomatch h
   ·exact Nat.lt_of_lt_of_eq (cands_lt p h) (Nat.succ_add_eq_add_succ j m)
theorem choice_le{nds:List Nd}{goal cap:Int}{j:Nat}{c:Int}(h:choice nds goal cap=some (j,c)):j≤nds.length:=
 scan_le (λ p hp=>Nat.le_of_lt_succ (Nat.lt_of_lt_of_eq (cands_lt p hp) (Nat.zero_add _))) (Nat.le_refl _) h
section
variable{K:Frag}(F:KF K){H0 H:Hp}{X:Addr→Hp→Prop}{n:Nat}{hd:Bool}{i:Nat}{vs:List V}{nds:List Nd}
include F
theorem f_toks(L:Ls H i vs nds){β:Type}{g:List V→M β}{P:β→Hp→Prop}(hP:∀ H',Pre H H'→Kx g P X (marks nds) H') :
  R.f (toSrc (.ref i) H) (Kx (λ src=>M.bind (compLoop 200 src 0 (c_730_2 K)) g) P X) X:=by
 have:=L.len
 refine n_lcN L.h L.a (Nat.lt_of_le_of_lt L.len (by decide)) mtok (λ v nd hm H' hp hn=>?_) hP
 have e:=λ{P:V→Hp→Prop}{X:Addr→Hp→Prop}=>nd_kind F (X:=X) hn (P:=P)
 have ho:=L.ok nd hm
 cases nd with
 | mark t=>
  obtain⟨x,rfl,h1⟩:=id hn
  simp [↓n_bind,↓n_K,↓n_pure,↓n_eqI,↓n_ifb,n_iT,↓e,Nd.kind,↓ma_t F h1,mtok,Pre.refl]
 | box=>rcases ho.1 with rfl | rfl<;>simp [↓n_bind,↓n_K,↓n_pure,↓n_eqI,↓n_ifb,n_iF,↓e,Nd.kind,mtok,Pre.refl]
 | _=>simp [↓n_bind,↓n_K,↓n_pure,↓n_eqI,↓n_ifb,n_iF,↓e,Nd.kind,mtok,Pre.refl]
theorem f_edge{j:Nat}(h:H[j]? = some (.list (marks nds)))(hl:nds.length≤100){β:Type}{g:V→M β}{P:β→Hp→Prop}(hP:∀ H',Pre H H'→Kx g P X (emk nds) H') :
  R.f (M.bind (alloc (.list [])) (λ t=>M.bind (cmpV .NotEq (.ref j) t) λ r=>M.bind (if r then(c_730_3 (.ref j)) else M.pure (V.tup [(V.tup []),(V.tup [])])) g) H) P X:=by
 have hp:=Pre.app H [.list []]
 have hm:(marks nds).length≤nds.length:=List.length_filterMap_le _ _
 simp only [↓n_bind,↓n_K,↓n_alloc]
 simp only [n_ne,n_eqL (hp _ _ h) at_last eq_nil]
 have hq:=hP _ hp
 unfold emk at hq
 cases e:marks nds with
 | nil=>
  rw [e] at hq
  exact hq
 | cons a r=>
  rw [e] at h hm hq
  have h':=hp _ _ h
  simp only [List.isEmpty_cons,↓n_bind,↓n_K,↓n_ifb,n_iT,Bool.not_false]
  rw [n_getL h' (by omega) ⟨0,idx_0 (by simp),rfl⟩]
  dsimp only [↓n_K,↓n_bind]
  rw [n_getL h' (by omega) (v:=(a::r).getLast (by simp)) ⟨_,idx_m1 (by simp),by rw [List.getLast_eq_getElem,List.getElem?_eq_getElem]⟩]
  exact hq
theorem f_emark(L:Ls H i vs nds){P:V→Hp→Prop}(hP:∀ H',Pre H H'→P (emk nds) H'):R.f (callF K (n+1) hd 730 [.ref i] [] H) P X:=by
 rw [F.u_730]
 simp only [↓n_bind]
 refine f_toks F L λ H' hp=>?_
 dsimp only [↓n_K,↓n_bind,↓n_alloc]
 exact f_edge F at_last L.len λ H'' hp''=>hP _ ((hp.app' _).trans hp'')
theorem f_vsplitN{a b c d:V}{P:V→Hp→Prop}:R.f (callF K (n+1) hd 737 [.none,a,b,c,d] [] H) P X=P (.tup [.none,.none,.tup [.tup [],.tup []],.tup [.int 0,.int 0]]) H:=by
 refine det ?_
 rw [F.u_737]
 simp [↓n_bind,↓n_K,↓n_Kr,↓n_pure,↓n_ifb,n_iT,↓n_is sN,isN_n]
theorem f_vsplitK{a b c d:V}{j:Nat}{k w h dd sh sg od:Int}{it rt:V}(e:H[j]? = some (boxO k w h dd it sh sg od rt))(hk:k≠3){P:V→Hp→Prop}(hX:X 80 H):R.f (callF K (n+1) hd 737 [.ref j,a,b,c,d] [] H) P X:=by
 rw [F.u_737]
 simpa [↓n_bind,↓n_K,↓n_raise,↓n_neI,↓n_ifb,n_iT,n_iF,Bool.not_false,↓n_is sR,isN_r,↓bx_kind F e,hk] using hX
theorem f_vsplit{b:Nat}{w h d sg od:Int}{x:Int × Int}(B:Bx H b i vs nds w h d sg od x){goal most cap:Int}(hg:-1000000≤goal∧goal≤1000000)(hc:-100≤cap∧cap≤1073741823)(hm:-100≤most∧most≤1073741823)
  {tp:Nat}{t:Gl} (ht:H[tp]? = some (glO t)) (hto:okT t) (hl50:nds.length≤90) {P:V→Hp→Prop}
  (hX:∀ H',Pre H H'→choice nds goal cap=none→X 80 H')
  (hP:∀ j c H' hb i' vs' w' sg' od' x' rv,Pre H H'→choice nds goal cap=some (j,c)→Bx H' hb i' vs' (nds.take j) w' goal (low (nds.take j) cap) sg' od' x'→RestAt H' rv (prune t (nds.drop j)) most→
   P (.tup [.ref hb,rv,emk (nds.take j),pr (repA (nds.take j) goal cap)]) H') :
  R.f (callF K (n+7) hd 737 [.ref b,.int goal,.int most,.int cap,.ref tp] [] H) P X:=by
 rw [F.u_737]
 have L:=B.L
 have hl:=L.lenV
 have hn1000:vs.length≤1000:=L.v1000
 simp [↓n_bind,↓n_K,↓n_neI,↓n_ifb,n_iF,Bool.not_true,↓n_is sR,isN_r,↓bx_kind F B.e,↓bx_items F B.e sR]
 refine f_vert F L hg hc (λ j c H1 p1 hch=>?_) hX
 dsimp only [↓n_K,↓n_bind]
 rw [n_getT (by simp) ⟨0,rfl,rfl⟩]
 have hj:j≤nds.length:=choice_le hch
 have B1:=B.mono p1
 simp only [↓n_bind,↓n_K,↓bx_items F B1.e sR]
 rw [n_sliceL B1.L.h hn1000 pt_none pt_int,cut_take (Nat.le_trans hj (Nat.le_of_eq hl.symm))]
 have p2:=Pre.app H1 [.list (vs.take j)]
 have LA:Ls (H1++[.list (vs.take j)]) H1.length (vs.take j) (nds.take j):=⟨at_last,(B1.L.a.mono λ _ _ q=>q.mono p2).take j,L.ok.take j,Nat.le_trans (List.length_take_le' j nds) L.len⟩
 have B2:=B1.mono p2
 simp only [↓n_bind,↓n_K,↓bx_items F B2.e sR]
 rw [n_sliceL B2.L.h hn1000 pt_int pt_none,cut_drop (Nat.le_trans hj (Nat.le_of_eq hl.symm))]
 dsimp only [↓n_K]
 generalize hH2:H1++[.list (vs.take j)]=H2 at p2 LA B2
 have p3:=Pre.app H2 [.list (vs.drop j)]
 have LB:Ls (H2++[.list (vs.drop j)]) H2.length (vs.drop j) (nds.drop j):=⟨at_last,(B2.L.a.mono λ _ _ q=>q.mono p3).drop j,L.ok.drop j,by rw [List.length_drop];exact Nat.le_trans (Nat.sub_le _ _) L.len⟩
 have LA3:=LA.mono p3
 have p03:=(p1.trans p2).trans p3
 refine f_pruned F LB (p03 _ _ ht) hto (by rw [List.length_drop];exact Nat.le_trans (Nat.sub_le _ _) hl50) λ H4 i4 vs4 p4 L4=>?_
 have LA4:=LA3.mono p4
 simp only [↓n_bind,↓n_K,↓n_alloc]
 simp only [n_ne,n_eqL (Pre.app _ _ _ _ L4.h) at_last eq_nil,L4.a.nil_iff]
 have p5:=Pre.app H4 [.list []]
 have LA5:=LA4.mono p5
 have L5:=L4.mono p5
 have p05:=(p03.trans p4).trans p5
 generalize H4++[.list []]=H5 at p5 LA5 L5 p05
 have head:∀ rv H6,Pre H5 H6→RestAt H6 rv (prune t (nds.drop j)) most→R.f (callF K (n+6) hd 640 [.ref H1.length,(V.int 0),.int goal,.int cap] [] H6) (Kx (c_737_3 (callF K (n+6) hd) (.ref H1.length) rv) (Kf P) X) X:=λ rv H6 p6 R6=>by
  rw [F.u_640]
  refine f_vpack F (LA5.mono p6) (.inl rfl) hg hc λ H7 hb w' sg' od' x' p7 hbx _=>?_
  simp only [↓n_bind,↓n_K,↓n_un2]
  refine f_emark F ((LA5.mono p6).mono p7) λ H8 p8=>?_
  simp only [↓n_K,↓n_Kr,↓n_pure]
  refine hP j c H8 hb _ _ w' sg' od' x' rv (p05.trans ((p6.trans p7).trans p8)) hch ⟨p8 _ _ hbx,((LA5.mono p6).mono p7).mono p8⟩ (R6.mono (p7.trans p8))
 cases hpe:prune t (nds.drop j) with
 | nil=>
  simp only [List.isEmpty_nil,↓n_bind,↓n_K,↓n_pure,↓n_ifb,n_iF,Bool.not_true]
  exact head .none H5 (.refl _) (.inl ⟨hpe,rfl⟩)
 | cons p0 pr0=>
  simp only [List.isEmpty_cons,↓n_bind,↓n_K,↓n_ifb,n_iT,Bool.not_false]
  rw [F.u_640_1_most_depth]
  refine f_vpack F L5 (.inr rfl) (by decide) hm λ H6 rb w' sg' od' x' p6 hbx hz=>?_
  simp only [↓n_K]
  rw [n_getT (by simp) ⟨0,rfl,rfl⟩]
  simp only [↓n_bind,↓n_K]
  have hz0:=hz (by rw [if_neg (by decide),Int.add_zero,Int.sub_self])
  obtain⟨rfl,rfl,rfl⟩:=hz0
  rw [if_neg (by decide),Int.add_zero] at hbx
  exact head (.ref rb) H6 p6 (.inr ⟨by rw [hpe];simp,rb,i4,vs4,w',rfl,hbx,L5.mono p6⟩)
end
end VW.Internal
end
section
open PySem PySem.W PySem.SeqAt
set_option backward.match.sparseCases false
set_option maxRecDepth 100000
namespace VW.Internal
open VS.Internal
noncomputable def PreX(q:Nat)(H H':Hp):Prop:=∀(i:Nat) (o:O),i≠q→H[i]? = some o→H'[i]? = some o
theorem Pre.x{q:Nat}{H H':Hp}(p:Pre H H'):PreX q H H':=λ i o _ h=>p i o h
theorem PreX.refl(q:Nat)(H:Hp):PreX q H H:=λ _ _ _ h=>h
theorem PreX.trans{q:Nat}{H H' H'':Hp}(x:PreX q H H')(y:PreX q H' H''):PreX q H H'':=λ i o n h=>y i o n (x i o n h)
noncomputable def Hs(H:Hp)(q:Nat)(k:Int):Prop:=∃ a b,0≤a∧0≤b∧b≤k∧H[q]? = some (.list [.int a,.int b])
theorem Hs.pre{H H':Hp}{q:Nat}{k:Int}(h:Hs H q k)(p:Pre H H'):Hs H' q k:=by
 obtain⟨a,b,h1,h2,h3,h4⟩:=h;exact⟨a,b,h1,h2,h3,p _ _ h4⟩
theorem Hs.le{H:Hp}{q:Nat}{k k':Int}(h:Hs H q k)(hk:k≤k'):Hs H q k':=by
 obtain⟨a,b,h1,h2,h3,h4⟩:=h;exact⟨a,b,h1,h2,Int.le_trans h3 hk,h4⟩
theorem Hs.lt{H:Hp}{q:Nat}{k:Int}(h:Hs H q k):q<H.length:=by
 obtain⟨a,b,_,_,_,h4⟩:=h;exact lt_of h4
theorem ne_q{H:Hp}{q:Nat}{k:Int}(h:Hs H q k):H.length≠q:=λ e=>Nat.lt_irrefl _ (e▸h.lt)
theorem Hs.ne{H:Hp}{q:Nat}{k:Int}(h:Hs H q k){i:Nat}{o:O}(hi:H[i]? = some o)(ho:∀ x y,o≠.list [x,y]):i≠q:=λ e=>by
 obtain⟨a,b,_,_,_,h4⟩:=h
 subst e
 rw [hi] at h4;cases h4
 exact ho _ _ rfl
theorem NdAt.monoX{H H':Hp}{q:Nat}{k:Int}{v:V}{nd:Nd}(hs:Hs H q k)(p:PreX q H H')(h:NdAt H v nd):NdAt H' v nd:=by
 obtain⟨i,e,h⟩:=h
 refine⟨i,e,?_⟩
 have gi:∀{u g},GlAt H u g→GlAt H' u g:=λ⟨j,e,h⟩=>⟨j,e,p _ _ (hs.ne h λ _ _ q=>by cases q) h⟩
 cases nd with
 | box=>obtain⟨j,h1,h2⟩:=h;exact⟨j,p _ _ (hs.ne h1 λ _ _ q=>by cases q) h1,p _ _ (hs.ne h2 λ _ _ q=>by cases q) h2⟩
 | skip=>obtain⟨j,h1,h2⟩:=h;exact⟨j,p _ _ (hs.ne h1 λ _ _ q=>by cases q) h1,gi h2⟩
 | ins=>obtain⟨u,j,h1,h2,h3⟩:=h;exact⟨u,j,p _ _ (hs.ne h1 λ _ _ q=>by cases q) h1,gi h2,p _ _ (hs.ne h3 λ _ _ q=>by cases q) h3⟩
 | _=>exact p _ _ (hs.ne h λ _ _ q=>by cases q) h
theorem t0{k:Int}(h:k≤900):k≤1000:=Int.le_trans h (by decide)
theorem t1{k:Int}(h:k≤900):k+1≤1000:=Int.le_trans (Int.add_le_add_right h 1) (by decide)
theorem t2{k:Int}(h:k≤900):k+1+1≤1000:=Int.le_trans (Int.add_le_add_right (Int.add_le_add_right h 1) 1) (by decide)
theorem t3{k:Int}(h:k≤900):k+1+1+1≤1000:=Int.le_trans (Int.add_le_add_right (Int.add_le_add_right (Int.add_le_add_right h 1) 1) 1) (by decide)
theorem t4{k:Int}(h:k≤900):k+1+1+1+1≤1000:=Int.le_trans (Int.add_le_add_right (Int.add_le_add_right (Int.add_le_add_right (Int.add_le_add_right h 1) 1) 1) 1) (by decide)
theorem t5{k:Int}(h:k≤900):k+1+1+1+1+1≤1000:=Int.le_trans (Int.add_le_add_right (Int.add_le_add_right (Int.add_le_add_right (Int.add_le_add_right (Int.add_le_add_right h 1) 1) 1) 1) 1) (by decide)
theorem t6{k:Int}(h:k≤900):k+1+1+1+1+1+1≤1000:=Int.le_trans (Int.add_le_add_right (Int.add_le_add_right (Int.add_le_add_right (Int.add_le_add_right (Int.add_le_add_right (Int.add_le_add_right h 1) 1) 1) 1) 1) 1) (by decide)
theorem v2{k:Int}:k+1+1≤k+5:=by
 rw [Int.add_assoc];exact Int.add_le_add_left (by decide) k
theorem v3{k:Int}:k+1+1+1≤k+5:=by
 rw [Int.add_assoc,Int.add_assoc];exact Int.add_le_add_left (by decide) k
theorem v4{k:Int}:k+1+1+1+1≤k+5:=by
 rw [Int.add_assoc,Int.add_assoc,Int.add_assoc];exact Int.add_le_add_left (by decide) k
theorem v5{k:Int}:k+1+1+1+1≤k+4:=by
 rw [Int.add_assoc,Int.add_assoc,Int.add_assoc];exact Int.add_le_add_left (by decide) k
theorem v6{k:Int}:k+1+4≤k+5:=by
 rw [Int.add_assoc];exact Int.add_le_add_left (by decide) k
theorem b10{w m:Int}(h:0≤w∧w<m)(e:m≤1000):0≤w∧w≤1000:=⟨h.1,Int.le_of_lt (Int.lt_of_lt_of_le h.2 e)⟩
theorem bg{w m:Int}(h:0≤w∧w<m)(e:m≤1000):-1073741823≤w∧w≤1073741823:=wid (b10 h e) (by decide) (by decide)
theorem bg1{w m:Int}(h:0≤w∧w<m)(e:m≤1000):-1073741823≤1+w∧1+w≤1073741823:=wid (iadd (a:=1) (b:=1) (by decide) (b10 h e)) (by decide) (by decide)
theorem bgm{w m:Int}(j:Int)(h:0≤w∧w<m)(e:m≤1000)(f:0≤j∧j≤1000):-1073741823≤w-j∧w-j≤1073741823:=wid (isub (b10 h e) f) (by decide) (by decide)
theorem lq{w m:Int}(h:0≤w∧w<m):0≤w∧w≤m:=⟨h.1,Int.le_of_lt h.2⟩
theorem two{x:Int}(h:0≤x∧x<2):x=0∨x=1:=by lia
section
variable{K:Frag}(F:KF K){H0 H:Hp}{X:Addr→Hp→Prop}{n:Nat}{hd:Bool}{q:Nat}{k:Int}
include F
theorem f_take(hs:Hs H q k)(hk:k≤1000){m:Int}(hm:1≤m∧m≤1000){P:V→Hp→Prop}(hP:∀ d H',0≤d∧d<m→PreX q H H'→Hs H' q (k+1)→P (.int d) H'):R.f (callF K (n+1) hd 751 [.ref q,.int m] [] H) P X:=by
 obtain⟨a,b,ha,hb,hbk,e⟩:=hs
 rw [F.u_751]
 simp only [↓n_bind]
 rw [n_getL e (by simp) ⟨1,rfl,rfl⟩]
 simp only [↓n_bind,↓n_K,↓n_add]
 rw [n_setL e (by simp) (by decide) (by simp)]
 have e1:(H.set q (.list ([V.int a,V.int b].set (1:Int).toNat (.int (b+1)))))[q]? = some (.list [.int a,.int (b+1)]):=set_at e
 have p1:PreX q H (H.set q (.list ([V.int a,V.int b].set (1:Int).toNat (.int (b+1))))):=λ i o hi h=>by rw [List.getElem?_set_ne (Ne.symm hi)];exact h
 generalize H.set q (.list ([V.int a,V.int b].set (1:Int).toNat (.int (b+1))))=H1 at e1 p1
 simp only [↓n_bind,↓n_K]
 rw [n_getL e1 (by simp) ⟨0,rfl,rfl⟩]
 simp only [↓n_bind,↓n_K,↓n_eqI,↓n_ifb,n_iD]
 have hm0:0<m:=Int.lt_of_lt_of_le (by decide) hm.1
 have hb1:-9223372036854775808<b+1∧b+1<9223372036854775808:=wlt (iadd (a:=0) (b:=1000) (c:=1) (d:=1) ⟨hb,Int.le_trans hbk hk⟩ (by decide)) (by decide) (by decide)
 have fm:∀ x:Int,0≤x.fmod m∧x.fmod m<m:=λ x=>⟨Int.fmod_nonneg_of_pos _ hm0,Int.fmod_lt_of_pos _ hm0⟩
 refine⟨λ h0=>?_,λ h0=>?_⟩
 ·rw [n_getL e1 (by simp) ⟨1,rfl,rfl⟩]
  dsimp only [↓n_K,↓n_bind]
  rw [n_mul (mul_small (by first | exact hb1 | decide))]
  dsimp only [↓n_K,↓n_bind]
  rw [n_getL e1 (by simp) ⟨1,rfl,rfl⟩]
  dsimp only [↓n_K,↓n_bind]
  rw [n_mul (mul_small' (by first | exact hb1 | decide))]
  dsimp only [↓n_K,↓n_bind]
  rw [n_getL e1 (by simp) ⟨1,rfl,rfl⟩]
  dsimp only [↓n_K,↓n_bind]
  rw [n_mul (mul_small (by first | exact hb1 | decide))]
  simp only [↓n_bind,↓n_K,↓n_add]
  rw [n_mod (by first | exact Int.ne_of_gt hm0 | decide)]
  dsimp only [↓n_K,↓n_bind]
  rw [n_mod (by first | exact Int.ne_of_gt hm0 | decide)]
  exact hP _ H1 (fm _) p1 ⟨a,b+1,ha,Int.add_nonneg hb (by decide),Int.add_le_add_right hbk 1,e1⟩
 ·rw [n_getL e1 (by simp) ⟨0,rfl,rfl⟩]
  dsimp only [↓n_K,↓n_bind]
  rw [n_mod (by first | exact Int.ne_of_gt hm0 | decide)]
  dsimp only [↓n_K,↓n_bind]
  rw [n_getL e1 (by simp) ⟨0,rfl,rfl⟩]
  dsimp only [↓n_K,↓n_bind]
  rw [n_div (div_small ⟨hm0,Int.lt_of_le_of_lt hm.2 (by decide)⟩)]
  dsimp only [↓n_K,↓n_bind]
  rw [n_setL e1 (by simp) (by decide) (by simp)]
  refine hP _ _ (fm _) (p1.trans λ i o hi h=>by rw [List.getElem?_set_ne (Ne.symm hi)];exact h) ⟨a.fdiv m,b+1,Int.fdiv_nonneg ha (Int.le_of_lt hm0),Int.add_nonneg hb (by decide),Int.add_le_add_right hbk 1,?_⟩
  exact set_at e1
theorem f_flowL(hs:Hs H q k)(hk:k≤900){P:V→Hp→Prop}(hP:∀ j g H',H'[j]? = some (glO g)→okT g→PreX q H H'→Hs H' q (k+4)→P (.ref j) H'):R.f (callF K (n+4) hd 758 [.ref q] [] H) P X:=by
 have h9:=hk
 rw [F.u_758]
 simp only [↓n_bind]
 refine f_take F hs (t0 h9) (by decide) λ en H1 hen p1 hs1=>?_
 simp only [↓n_bind,↓n_K]
 refine f_take F hs1 (t1 h9) (by decide) λ st H2 hst p2 hs2=>?_
 simp only [↓n_bind,↓n_K]
 refine f_take F hs2 (t2 h9) (by decide) λ sh H3 hsh p3 hs3=>?_
 simp only [↓n_bind,↓n_K]
 refine f_take F hs3 (t3 h9) (by decide) λ w H4 hw p4 hs4=>?_
 have p04:=((p1.trans p2).trans p3).trans p4
 have fin:∀ so ko,(0≤so∧so≤3)→(ko=0∨ko=1)→R.f (makeV K (callF K (n+3) hd) 250 [.int (w-1),.int st,.int so,.int sh,.int ko] [] H4) (Kx (λ t=>M.pure (.ret t)) (Kf P) X) X:=λ so ko h1 h2=>by
  rw [mk_gl F (bgm 1 hw (by decide) (by decide)) (bg hst (by decide)) (bg hsh (by decide)) h1 (koL h2)]
  refine hP _ (nrm ⟨w-1,st,so,sh,ko⟩) _ at_last ?_ (p04.trans (Pre.app _ _).x) ((hs4.pre (.app _ _)).le v5)
  unfold okT okG nrm
  dsimp only
  refine⟨⟨wid (isub (c:=1) (d:=1) (lq hw) (by decide)) (by decide) (by decide),wid (lq hst) (by decide) (by decide),iteL (by decide) h1,wid (lq hsh) (by decide) (by decide),by split<;>first | exact .inl rfl | exact h2⟩,λ h=>by rw [if_pos h],λ h=>by rw [if_pos h]⟩
 by_cases h3:en<3
 ·have:=fin (1+en) 0 ⟨Int.add_nonneg (by decide) hen.1,Int.le_trans (Int.le_of_eq (Int.add_comm 1 en)) (Int.add_one_le_of_lt h3)⟩ (.inl rfl)
  have h3':¬ en=3:=Int.ne_of_lt h3
  simpa [↓n_bind,↓n_K,↓n_pure,↓n_lt,↓n_add,↓n_sub,↓n_eqI,↓n_ifb,n_iT,n_iF,h3,h3'] using this
 ·by_cases h4:en=3
  ·have:=fin 0 1 (by decide) (.inr rfl)
   simpa [↓n_bind,↓n_K,↓n_pure,↓n_lt,↓n_sub,↓n_eqI,↓n_ifb,n_iT,n_iF,h3,h4] using this
  ·have:=fin 0 0 (by decide) (.inl rfl)
   simpa [↓n_bind,↓n_K,↓n_pure,↓n_lt,↓n_sub,↓n_eqI,↓n_ifb,n_iF,h3,h4] using this
theorem f_part(hs:Hs H q k)(hk:k≤800){P:V→Hp→Prop}(hP:∀ v nd H',NdAt H' v nd→nd.ok→PreX q H H'→Hs H' q (k+5)→P v H'):R.f (callF K (n+5) hd 765 [.ref q] [] H) P X:=by
 have h9:=Int.le_trans hk (by decide:(800:Int)≤900)
 rw [F.u_765]
 simp only [↓n_bind]
 refine f_take F hs (t0 h9) (by decide) λ way H1 hway p1 hs1=>?_
 dsimp only [↓n_K,↓n_bind,↓n_lt,↓n_ifb]
 simp only [n_iD]
 refine⟨λ hw=>?_,λ hw=>?_⟩
 ·
  dsimp only [↓n_bind]
  rw [n_mod (by decide)]
  simp only [↓n_bind,↓n_K,↓n_add]
  refine f_take F hs1 (t1 h9) (by decide) λ w H2 hww p2 hs2=>?_
  simp only [↓n_bind,↓n_K]
  refine f_take F hs2 (t2 h9) (by decide) λ h H3 hh p3 hs3=>?_
  simp only [↓n_bind,↓n_K,↓n_add]
  refine f_take F hs3 (t3 h9) (by decide) λ d H4 hd4 p4 hs4=>?_
  simp only [↓n_bind,↓n_K,↓n_sub,↓n_alloc]
  have hkk:2≤2+way.fmod 2∧2+way.fmod 2≤3:=wid (iadd (a:=2) (b:=2) (d:=1) (by decide) ⟨Int.fmod_nonneg_of_pos way (show(0:Int)<2 by decide),Int.lt_add_one_iff.mp (Int.fmod_lt_of_pos way (show(0:Int)<2 by decide))⟩) (by decide) (by decide)
  generalize 2+way.fmod 2=kk at hkk
  rw [mk_box F hkk (bg hww (by decide)) (bg1 hh (by decide)) (bgm 1 hd4 (by decide) (by decide))]
  simp only [↓n_bind,↓n_K,↓n_sub]
  have p5:=(Pre.app H4 [O.list []]).app' [boxO kk w (1+h) (d-1) (.ref H4.length) 0 0 0 r01]
  have e5:=at_last (H:=H4++[O.list []]) (o:=boxO kk w (1+h) (d-1) (.ref H4.length) 0 0 0 r01)
  have e6:(H4++[O.list []]++[boxO kk w (1+h) (d-1) (.ref H4.length) 0 0 0 r01])[H4.length]? = some (.list []):=Pre.app _ _ _ _ at_last
  have es:∀{P:Unit→Hp→Prop}{X:Addr→Hp→Prop},R.f (setA K (.ref (H4++[O.list []]).length) "shift" (.int (way-1)) (H4++[O.list []]++[boxO kk w (1+h) (d-1) (.ref H4.length) 0 0 0 r01])) P X =
    P () ((H4++[O.list []]++[boxO kk w (1+h) (d-1) (.ref H4.length) 0 0 0 r01]).set (H4++[O.list []]).length (boxO kk w (1+h) (d-1) (.ref H4.length) (way-1) 0 0 r01)):=λ{P X}=>n_set e5 F.a_354_shift (by simp)
  simp only [es]
  have p6:=p5.set (i:=(H4++[O.list []]).length) (o:=boxO kk w (1+h) (d-1) (.ref H4.length) (way-1) 0 0 r01) (by simp)
  refine hP _ (.box kk w (1+h) (d-1) (way-1)) _ ⟨_,rfl,H4.length,set_at e5,?_⟩ ?_ ((((p1.trans p2).trans p3).trans p4).trans p6.x) ((hs4.pre p6).le v4)
  ·exact set_other e6 (by simp)
  ·exact⟨by lia,wid (lq hww) (by decide) (by decide),wid (iadd (a:=1) (b:=1) (by decide) (lq hh)) (by decide) (by decide),wid (isub (c:=1) (d:=1) (lq hd4) (by decide)) (by decide) (by decide),wid (isub (c:=1) (d:=1) (lq ⟨hway.1,hw⟩) (by decide)) (by decide) (by decide)⟩
 have hw':¬ way<4:=hw
 dsimp only [↓n_bind,↓n_eqI,↓n_K,↓n_ifb]
 simp only [n_iD]
 refine⟨λ hw4=>?_,λ hw4=>?_⟩
 ·
  simp only [↓n_bind,↓n_K,↓n_alloc]
  have a1:=Pre.app H1 [O.list [.none,.int 3]]
  refine f_take F (hs1.pre a1) (t1 h9) (by decide) λ x H2 hx p2 hs2=>?_
  have e2:H2[H1.length]? = some (.list [.none,.int 3]):=p2 _ _ (ne_q hs1) at_last
  have hx':x=0∨x=1:=two hx
  obtain⟨oh,hoh,eh⟩:∃ oh:Option Int,(oh=none∨oh=some 3)∧∀{P:V→Hp→Prop}{X:Addr→Hp→Prop},R.f (getI (.ref H1.length) (.int x) H2) P X=P (oV oh) H2:=by
   rcases hx' with rfl | rfl
   ·exact⟨none,.inl rfl,λ{P X}=>n_getL e2 (by simp) ⟨0,rfl,rfl⟩⟩
   ·exact⟨some 3,.inr rfl,λ{P X}=>n_getL e2 (by simp) ⟨1,rfl,rfl⟩⟩
  dsimp only [↓n_K,↓n_bind]
  rw [eh]
  simp only [↓n_bind,↓n_K,↓n_alloc]
  have a2:=Pre.app H2 [O.list [.none,.int 2]]
  refine f_take F (hs2.pre a2) (t2 h9) (by decide) λ y H3 hy p3 hs3=>?_
  have e3:H3[H2.length]? = some (.list [.none,.int 2]):=p3 _ _ (ne_q hs2) at_last
  have hy':y=0∨y=1:=two hy
  obtain⟨od,hod,ed⟩:∃ od:Option Int,(od=none∨od=some 2)∧∀{P:V→Hp→Prop}{X:Addr→Hp→Prop},R.f (getI (.ref H2.length) (.int y) H3) P X=P (oV od) H3:=by
   rcases hy' with rfl | rfl
   ·exact⟨none,.inl rfl,λ{P X}=>n_getL e3 (by simp) ⟨0,rfl,rfl⟩⟩
   ·exact⟨some 2,.inr rfl,λ{P X}=>n_getL e3 (by simp) ⟨1,rfl,rfl⟩⟩
  dsimp only [↓n_K,↓n_bind]
  rw [ed]
  dsimp only [↓n_K,↓n_bind]
  rw [mk_rule F hoh hod]
  exact hP _ (.rule oh od) _ ⟨_,rfl,at_last⟩ ⟨hoh,hod⟩ (((((p1.trans a1.x).trans p2).trans a2.x).trans p3).trans (Pre.app _ _).x) ((hs3.pre (.app _ _)).le v3)
 dsimp only [↓n_bind,↓n_lt,↓n_K,↓n_ifb]
 simp only [n_iD]
 refine⟨λ hw9=>?_,λ hw9=>?_⟩
 ·
  dsimp only [↓n_bind]
  refine f_flowL F hs1 (Int.le_trans (Int.add_le_add_right hk 1) (by decide)) λ j g H2 ej hg p2 hs2=>?_
  dsimp only [↓n_K,↓n_bind]
  rw [mk_skip F (.inl rfl)]
  exact hP _ (.skip g 0) _ ⟨_,rfl,_,at_last,j,rfl,Pre.app _ _ _ _ ej⟩ ⟨hg.1,.inl rfl⟩ ((p1.trans p2).trans (Pre.app _ _).x) ((hs2.pre (.app _ _)).le v6)
 dsimp only [↓n_bind,↓n_eqI,↓n_K,↓n_ifb]
 simp only [n_iD]
 refine⟨λ hw9'=>?_,λ hw9'=>?_⟩
 ·dsimp only [↓n_bind]
  refine f_take F hs1 (t1 h9) (by decide) λ x H2 hx p2 hs2=>?_
  dsimp only [↓n_K,↓n_bind,↓n_sub]
  rw [mk_kern F (bgm 2 hx (by decide) (by decide))]
  exact hP _ (.kern (x-2)) _ ⟨_,rfl,at_last⟩ (wid (isub (c:=2) (d:=2) (lq hx) (by decide)) (by decide) (by decide)) ((p1.trans p2).trans (Pre.app _ _).x) ((hs2.pre (.app _ _)).le v2)
 dsimp only [↓n_bind,↓n_lt,↓n_K,↓n_ifb]
 simp only [n_iD]
 refine⟨λ hw13=>?_,λ hw13=>?_⟩
 ·
  simp only [↓n_bind,↓n_K,↓n_alloc]
  have a1:=Pre.app H1 [O.list [.int 0,.int (-10000),.int (-200),.int 50,.int 9999,.int 10000,.int 70,.int (-12000)]]
  refine f_take F (hs1.pre a1) (t1 h9) (by decide) λ x H2 hx p2 hs2=>?_
  have e2:H2[H1.length]? = some (.list [.int 0,.int (-10000),.int (-200),.int 50,.int 9999,.int 10000,.int 70,.int (-12000)]):=p2 _ _ (ne_q hs1) at_last
  obtain⟨v,hv,ev⟩:∃ v:Int,(-20000≤v∧v≤10000)∧∀{P:V→Hp→Prop}{X:Addr→Hp→Prop},R.f (getI (.ref H1.length) (.int x) H2) P X=P (.int v) H2:=by
   have:x=0∨x=1∨x=2∨x=3∨x=4∨x=5∨x=6∨x=7:=ord8 (by assumption)
   rcases this with rfl | rfl | rfl | rfl | rfl | rfl | rfl | rfl
   ·exact⟨_,(by decide:(-20000:Int)≤0∧(0:Int)≤10000),λ{P X}=>n_getL e2 (by simp) ⟨0,rfl,rfl⟩⟩
   ·exact⟨_,(by decide:(-20000:Int)≤-10000∧(-10000:Int)≤10000),λ{P X}=>n_getL e2 (by simp) ⟨1,rfl,rfl⟩⟩
   ·exact⟨_,(by decide:(-20000:Int)≤-200∧(-200:Int)≤10000),λ{P X}=>n_getL e2 (by simp) ⟨2,rfl,rfl⟩⟩
   ·exact⟨_,(by decide:(-20000:Int)≤50∧(50:Int)≤10000),λ{P X}=>n_getL e2 (by simp) ⟨3,rfl,rfl⟩⟩
   ·exact⟨_,(by decide:(-20000:Int)≤9999∧(9999:Int)≤10000),λ{P X}=>n_getL e2 (by simp) ⟨4,rfl,rfl⟩⟩
   ·exact⟨_,(by decide:(-20000:Int)≤10000∧(10000:Int)≤10000),λ{P X}=>n_getL e2 (by simp) ⟨5,rfl,rfl⟩⟩
   ·exact⟨_,(by decide:(-20000:Int)≤70∧(70:Int)≤10000),λ{P X}=>n_getL e2 (by simp) ⟨6,rfl,rfl⟩⟩
   ·exact⟨_,(by decide:(-20000:Int)≤-12000∧(-12000:Int)≤10000),λ{P X}=>n_getL e2 (by simp) ⟨7,rfl,rfl⟩⟩
  dsimp only [↓n_K,↓n_bind]
  rw [ev]
  dsimp only [↓n_K,↓n_bind]
  rw [mk_pen F (wid hv (by decide) (by decide))]
  exact hP _ (.pen v) _ ⟨_,rfl,at_last⟩ hv (((p1.trans a1.x).trans p2).trans (Pre.app _ _).x) ((hs2.pre (.app _ _)).le v2)
 dsimp only [↓n_bind,↓n_eqI,↓n_K,↓n_ifb]
 simp only [n_iD]
 refine⟨λ hw13'=>?_,λ hw13'=>?_⟩
 ·dsimp only [↓n_bind]
  refine f_take F hs1 (t1 h9) (by decide) λ x H2 hx p2 hs2=>?_
  dsimp only [↓n_K,↓n_bind]
  refine(mk_mark F (n:=n+1) (hd:=hd) (H:=H2) (t:=x)).mpr ?_
  exact hP _ (.mark x) _ ⟨_,rfl,at_last⟩ trivial ((p1.trans p2).trans (Pre.app _ _).x) ((hs2.pre (.app _ _)).le v2)
 ·dsimp only [↓n_bind]
  refine f_take F hs1 (t1 h9) (by decide) λ x H2 hx p2 hs2=>?_
  dsimp only [↓n_K,↓n_bind,↓n_eqI,↓n_ifb]
  simp only [n_iD]
  refine⟨λ _=>?_,λ _=>?_⟩
  ·dsimp only [↓n_bind]
   rw [mk_gl0 F]
   simp only [↓n_bind,↓n_K,↓n_alloc]
   rw [mk_ins F]
   have pp:=((Pre.app H2 [glO ⟨0,0,0,0,0⟩]).app' [.list []]).app' [insO (.ref H2.length) (.ref (H2++[glO ⟨0,0,0,0,0⟩]).length)]
   refine hP _ .ins _ ⟨_,rfl,.ref H2.length,(H2++[glO ⟨0,0,0,0,0⟩]).length,at_last,⟨_,rfl,?_⟩,?_⟩ trivial ((p1.trans p2).trans pp.x) ((hs2.pre pp).le v2)
   ·exact Pre.app _ _ _ _ (Pre.app _ _ _ _ at_last)
   ·exact Pre.app _ _ _ _ at_last
  ·rw [mk_spec F]
   exact hP _ .spec _ ⟨_,rfl,at_last⟩ trivial ((p1.trans p2).trans (Pre.app _ _).x) ((hs2.pre (.app _ _)).le v2)
end
end VW.Internal
end
section
open PySem PySem.W PySem.SeqAt
set_option backward.match.sparseCases false
set_option maxRecDepth 100000
namespace VW.Internal
open VS.Internal
noncomputable def Nd.mat:Nd→Bool
 | .box ..=>true
 | .rule ..=>true
 | .skip ..=>true
 | .kern ..=>true
 | _=>false
noncomputable def Nd.gl:Nd→Option Gl
 | .skip g _=>some g
 | _=>none
theorem own_filter(nds:List Nd):own nds=match(nds.filter Nd.mat).getLast? with | none=>0 | some nd=>ownS 0 nd:=by
 have:∀(nds:List Nd) (d:Int),nds.foldl ownS d=match(nds.filter Nd.mat).getLast? with | none=>d | some nd=>ownS 0 nd:=λ nds=>by
  induction nds with
  | nil=>intro d;rfl
  | cons a r ih=>
   intro d
   rw [List.foldl_cons,ih]
   have e:a.mat=false→ownS d a=d:=λ h=>by cases a<;>first | rfl | cases h
   have e':a.mat=true→ownS d a=ownS 0 a:=λ h=>by cases a<;>first | rfl | cases h
   cases hm:a.mat with
   | false=>rw [List.filter_cons_of_neg (by simp [hm]),e hm]
   | true=>
    rw [List.filter_cons_of_pos hm,e' hm]
    cases hr:r.filter Nd.mat with
    | nil=>rfl
    | cons b s=>rw [List.getLast?_cons_cons];cases q:(b::s).getLast? with
     | none=>simp at q
     | some z=>rfl
 exact this nds 0
theorem intsV_map(ns:List Int):intsV (ns.map V.int)=some ns:=by
 induction ns with
 | nil=>rfl
 | cons n r ih=>show(intsV (r.map V.int)).map (n :: ·)=_;rw [ih];rfl
theorem sumI_ints(ns:List Int):sumI (ns.map V.int)=some ns.sum:=congrArg (Option.map List.sum) (intsV_map ns)
theorem sumI_cons{n:Int}{l:List V}:sumI (.int n::l)=(sumI l).map (n + ·):=by
 show((intsV l).map (n :: ·)).map List.sum=((intsV l).map List.sum).map (n + ·)
 cases intsV l<;>rfl
theorem sumI_nil:sumI []=some 0:=rfl
theorem sumI_tall(nds:List Nd):sumI (nds.map λ nd=>V.int nd.tall)=some (tot nds):=by
 have:=sumI_ints (nds.map Nd.tall)
 rw [List.map_map] at this
 exact this
theorem sum_gl{p q:Gl→Int}{o:Int}{st:Nd→Int}(h:∀ nd,st nd=nd.gl.elim 0 λ g=>if p g=o then q g else 0)(nds:List Nd):sumI ((nds.filterMap Nd.gl).filterMap λ g=>if p g=o then some (V.int (q g)) else none)=some (nds.map st).sum:=by
 induction nds with
 | nil=>rfl
 | cons a r ih=>
  rw [List.map_cons,List.sum_cons,h a]
  cases e:a.gl with
  | none=>rw [List.filterMap_cons_none e,ih];exact congrArg some (Int.zero_add _).symm
  | some g=>
   rw [List.filterMap_cons_some e]
   by_cases z:p g=o
   ·rw [List.filterMap_cons_some (f:=λ g=>if p g=o then some (V.int (q g)) else none) (if_pos z),sumI_cons,ih];exact congrArg some (congrArg (· + _) (if_pos z).symm)
   ·rw [List.filterMap_cons_none (f:=λ g=>if p g=o then some (V.int (q g)) else none) (if_neg z),ih];exact congrArg some ((Int.zero_add _).symm.trans (congrArg (· + _) (if_neg z).symm))
theorem ss_gl(nds:List Nd)(o:Int):sumI ((nds.filterMap Nd.gl).filterMap λ g=>if g.so=o then some (V.int g.s) else none)=some (ss nds o):=sum_gl (st:=Nd.st o) (λ nd=>by cases nd<;>rfl) nds
theorem ks_gl(nds:List Nd)(o:Int):sumI ((nds.filterMap Nd.gl).filterMap λ g=>if g.ko=o then some (V.int g.k) else none)=some (ks nds o):=sum_gl (st:=Nd.sk o) (λ nd=>by cases nd<;>rfl) nds
theorem all2_sel{H:Hp}{sel:Nd→Bool}{nds:List Nd}{rs:List (Option V)}(h:All2 (λ nd (r:Option V)=>if sel nd then ∃ v,r=some v∧NdAt H v nd else r=none) nds rs):All2 (NdAt H) (rs.filterMap id) (nds.filter sel):=by
 induction h with
 | nil=>exact .nil
 | cons h _ ih=>
  rename_i nd _ _ _ _
  by_cases hs:sel nd=true
  ·rw [if_pos hs] at h
   obtain⟨v,rfl,hv⟩:=h
   rw [List.filter_cons_of_pos hs]
   exact .cons hv ih
  ·rw [if_neg hs] at h
   subst h
   rw [List.filter_cons_of_neg hs]
   exact ih
theorem all2_gl{H:Hp}{nds:List Nd}{rs:List (Option V)}(h:All2 (λ nd (r:Option V)=>match Nd.gl nd with | some g=>∃ u,r=some u∧GlAt H u g | none=>r=none) nds rs):All2 (GlAt H) (rs.filterMap id) (nds.filterMap Nd.gl):=by
 induction h with
 | nil=>exact .nil
 | cons h _ ih=>
  rename_i nd _ _ _ _
  cases e:nd.gl with
  | some g=>
   rw [e] at h
   obtain⟨u,rfl,hu⟩:=h
   rw [List.filterMap_cons,List.filterMap_cons,e]
   exact .cons hu ih
  | none=>
   rw [e] at h
   subst h
   rw [List.filterMap_cons,List.filterMap_cons,e]
   exact ih
theorem cut_last{xs:List V}:cutL (some (-1)) none xs=xs.drop (xs.length-1):=by
 unfold cutL kms_lo kms_hi
 dsimp only
 rw [if_pos (by decide)]
 exact List.take_of_length_le (by simp)
section
variable{K:Frag}(F:KF K){H0 H:Hp}{X:Addr→Hp→Prop}{n:Nat}{hd:Bool}{i:Nat}{vs:List V}{nds:List Nd}
include F
theorem f_tall{v:V}{nd:Nd}(ho:nd.ok)(h:NdAt H v nd){P:V→Hp→Prop}(hP:∀ H',Pre H H'→P (.int nd.tall) H'):R.f (callF K (n+1) hd 770 [v] [] H) P X:=by
 rw [F.u_770]
 have e:=λ{P:V→Hp→Prop}{X:Addr→Hp→Prop}=>nd_kind F (X:=X) h (P:=P)
 have stdc:nd.std=true→nd.tall=nd.hgt.getD 0+nd.dep.getD 0→R.f (getA K v "height" H) (Kx (λ t21=>M.bind (getA K v "depth") λ t23=>M.bind (alloc (.list [t21,t23])) c_770_2) (Kx (λ t=>M.pure (.ret t)) (Kf P) X) X) X:=λ hs ht=>by
  have eh:=λ{P:V→Hp→Prop}{X:Addr→Hp→Prop}=>nd_height F (X:=X) h hs (P:=P)
  have ed:=λ{P:V→Hp→Prop}{X:Addr→Hp→Prop}=>nd_depth F (X:=X) h hs (P:=P)
  simp only [↓n_bind,↓n_K,↓n_alloc,↓eh,↓ed]
  refine n_lcL (Rl:=λ v o=>v=oV o) (bs:=[nd.hgt,nd.dep]) at_last (.cons rfl (.cons rfl .nil)) (by simp) (λ o=>o.map V.int) (λ v o _ hv H' hp=>?_) λ H' hp=>?_
  ·subst hv
   cases o<;>simp [↓n_bind,↓n_K,↓n_pure,↓n_ifb,n_iT,n_iF,Bool.not_false,Bool.not_true,↓n_isnot sN,↓n_isnot sI,isN_n,isN_i,oV,Pre.refl]
  ·simp only [↓n_bind,↓n_K,↓n_alloc]
   rw [n_sumL (m:=nd.tall) at_last (Nat.le_trans (List.length_filterMap_le (λ o:Option Int=>o.map V.int) [nd.hgt,nd.dep]) (show 2≤1000 by decide)) (by rw [ht];cases nd.hgt<;>cases nd.dep<;>simp [sumI_cons,sumI_nil])]
   exact hP _ (((Pre.app _ _).trans hp).app' _)
 cases nd with
 | skip g s=>
  obtain⟨x,rfl,u,h1,j,rfl,h2⟩:=id h
  simp [↓n_bind,↓n_K,↓n_Kr,↓n_pure,↓n_eqI,↓n_ifb,n_iT,↓e,Nd.kind,↓sk_g F h1 sR,↓gl_w F h2]
  exact hP _ (.refl _)
 | kern w=>
  obtain⟨x,rfl,h1⟩:=id h
  simp [↓n_bind,↓n_K,↓n_Kr,↓n_pure,↓n_eqI,↓n_ifb,n_iT,n_iF,↓e,Nd.kind,↓kn_w F h1]
  exact hP _ (.refl _)
 | box k w hh d sh=>
  rcases ho.1 with rfl | rfl<;>simp [↓n_bind,↓n_K,↓n_pure,↓n_asB,↓n_le,↓n_eqI,↓n_ifb,n_iT,n_iF,↓e,Nd.kind]<;>exact stdc rfl rfl
 | rule a b=>
  simp [↓n_bind,↓n_K,↓n_pure,↓n_asB,↓n_le,↓n_eqI,↓n_ifb,n_iT,n_iF,↓e,Nd.kind]
  exact stdc rfl rfl
 | _=>
  have:=hP H (.refl _)
  simpa [Nd.kind,↓n_bind,↓n_K,↓n_Kr,↓n_pure,↓n_asB,↓n_le,↓n_eqI,↓n_ifb,n_iT,n_iF,↓e,Nd.tall] using this
theorem f_total(L:Ls H i vs nds){P:V→Hp→Prop}(hP:∀ H',Pre H H'→P (.int (tot nds)) H'):R.f (callF K (n+2) hd 775 [.ref i] [] H) P X:=by
 rw [F.u_775]
 have hl:=L.len
 simp only [↓n_bind]
 refine n_lcN L.h L.a L.n200 (λ nd=>some (.int nd.tall)) (λ v nd hm H' hp hn=>?_) λ H' hp=>?_
 ·dsimp only [↓n_bind]
  exact f_tall F (L.ok nd hm) hn λ H'' hp''=>⟨rfl,hp''⟩
 ·simp only [↓n_bind,↓n_K,↓n_alloc]
  rw [List.filterMap_eq_map',n_sumL at_last (by rw [List.length_map];exact Nat.le_trans L.len (by decide)) (sumI_tall nds)]
  exact hP _ (hp.app' _)
theorem f_low(L:Ls H i vs nds){m:Int}{P:V→Hp→Prop}(hP:∀ H',Pre H H'→P (.int (low nds m)) H'):R.f (callF K (n+1) hd 780 [.ref i,.int m] [] H) P X:=by
 rw [F.u_780]
 have hl:=L.len
 simp only [↓n_bind]
 refine n_lcQ (Q:=λ nd (r:Option V)=>if nd.mat then ∃ v,r=some v∧NdAt H v nd else r=none) L.h L.a L.n200 (λ v nd hm H' hp hn=>?_) λ rs H' hp hQ=>?_
 ·have e:=λ{P:V→Hp→Prop}{X:Addr→Hp→Prop}=>nd_kind F (X:=X) hn (P:=P)
  have ho:=L.ok nd hm
  cases nd with
  | box=>rcases ho.1 with rfl | rfl<;>simp [↓n_bind,↓n_K,↓n_pure,↓n_asB,↓n_le,↓n_ifb,n_iT,↓e,Nd.kind,Nd.mat,Pre.refl]
  | _=>simp [↓n_bind,↓n_K,↓n_pure,↓n_asB,↓n_le,↓n_ifb,n_iT,n_iF,↓e,Nd.kind,Nd.mat,Pre.refl]
 ·have ha:=all2_sel hQ
  generalize rs.filterMap id=us at ha
  have hul:us.length≤100:=Nat.le_trans (Nat.le_of_eq ha.length) (Nat.le_trans (List.length_filter_le Nd.mat nds) hl)
  simp only [↓n_bind,↓n_K,↓n_alloc]
  rw [n_sliceL at_last (Nat.le_trans hul (by decide)) pt_int pt_none,cut_last]
  simp only [↓n_bind,↓n_K,↓n_alloc]
  have p1:=(hp.app' [.list us]).app' [.list (us.drop (us.length-1))]
  have e1:=at_last (H:=H'++[.list us]) (o:=.list (us.drop (us.length-1)))
  have hr:(us=[]∧own nds=0)∨∃ v nd,us.drop (us.length-1)=[v]∧NdAt H v nd∧nd.mat=true∧nd∈nds∧own nds=ownS 0 nd:=by
   rw [own_filter]
   rcases Nat.eq_zero_or_pos us.length with h0 | h0
   ·have hu:us=[]:=List.eq_nil_of_length_eq_zero h0
    subst hu
    left
    have:(nds.filter Nd.mat)=[]:=List.eq_nil_of_length_eq_zero (by have:=ha.length;simpa using this.symm)
    rw [this];exact⟨rfl,rfl⟩
   ·right
    have hf:(nds.filter Nd.mat).length=us.length:=ha.length.symm
    obtain⟨nd,hnd⟩:∃ nd,(nds.filter Nd.mat)[us.length-1]? = some nd:=⟨_,List.getElem?_eq_getElem (Nat.lt_of_lt_of_eq (Nat.sub_lt h0 (by decide)) hf.symm)⟩
    obtain⟨v,hv,hn⟩:=ha.get hnd
    have hmem:=List.mem_of_getElem? hnd
    refine⟨v,nd,?_,hn,(List.mem_filter.mp hmem).2,(List.mem_filter.mp hmem).1,?_⟩
    ·obtain⟨hlt,hx⟩:=List.getElem?_eq_some_iff.mp hv
     rw [List.drop_eq_getElem_cons hlt,hx,List.drop_of_length_le (Nat.le_of_eq (Nat.sub_add_cancel h0).symm)]
    ·simp only [List.getLast?_eq_getElem?,hf,hnd]
  rw [n_eqL (Pre.app _ _ _ _ e1) at_last eq_nil]
  have p2:=p1.app' [.list []]
  have e2:=Pre.app _ [O.list []] _ _ e1
  generalize H'++[.list us]++[.list (us.drop (us.length-1))]++[.list []]=H2 at p2 e2
  generalize (H'++[O.list us]).length=j at e2
  have fin:∀ x:Int,x=own nds→P (.int (min x m)) H2:=λ x hx=>by
   have:=hP H2 p2
   unfold low at this
   rw [hx];exact this
  rcases hr with ⟨rfl,h0⟩ | ⟨v,nd,hdv,hn,hmat,hmem,ho⟩
  ·have:=fin 0 h0.symm
   simpa [↓n_bind,↓n_K,↓n_Kr,↓n_pure,↓n_asB,↓n_min,↓n_ifb,n_iT] using this
  ·rw [hdv] at e2 ⊢
   have hn2:=hn.mono p2
   have e:=λ{P:V→Hp→Prop}{X:Addr→Hp→Prop}=>nd_kind F (X:=X) hn2 (P:=P)
   have eg:=λ{P:V→Hp→Prop}{X:Addr→Hp→Prop}=>n_getL e2 (X:=X) (k:=0) (v:=v) (by simp) ⟨0,rfl,rfl⟩ (P:=P)
   have hok:=L.ok nd hmem
   cases nd with
   | box k w hh d sh=>
    have ed:=λ{P:V→Hp→Prop}{X:Addr→Hp→Prop}=>nd_depth F (X:=X) hn2 rfl (P:=P)
    have:=fin d ho.symm
    rcases hok.1 with rfl | rfl<;>simpa [↓n_bind,↓n_K,↓n_Kr,↓n_pure,↓n_asB,↓n_gt,↓n_min,↓n_ifb,n_iF,↓eg,↓e,Nd.kind,↓ed,Nd.dep,oV,↓n_is sI,isN_i] using this
   | rule a b=>
    have ed:=λ{P:V→Hp→Prop}{X:Addr→Hp→Prop}=>nd_depth F (X:=X) hn2 rfl (P:=P)
    have:=fin (b.getD 0) ho.symm
    cases b with
    | none=>simpa [↓n_bind,↓n_K,↓n_Kr,↓n_pure,↓n_asB,↓n_gt,↓n_min,↓n_ifb,n_iT,n_iF,↓eg,↓e,Nd.kind,↓ed,Nd.dep,oV,↓n_is sN,isN_n] using this
    | some d=>simpa [↓n_bind,↓n_K,↓n_Kr,↓n_pure,↓n_asB,↓n_gt,↓n_min,↓n_ifb,n_iF,↓eg,↓e,Nd.kind,↓ed,Nd.dep,oV,↓n_is sI,isN_i] using this
   | skip g s=>have:=fin 0 ho.symm;simpa [↓n_bind,↓n_K,↓n_Kr,↓n_pure,↓n_asB,↓n_gt,↓n_min,↓n_ifb,n_iT,n_iF,↓eg,↓e,Nd.kind] using this
   | kern w=>have:=fin 0 ho.symm;simpa [↓n_bind,↓n_K,↓n_Kr,↓n_pure,↓n_asB,↓n_gt,↓n_min,↓n_ifb,n_iT,n_iF,↓eg,↓e,Nd.kind] using this
   | _=>cases hmat
theorem f_sum(L:Ls H i vs nds){o:Int}{mo:Bool}{P:V→Hp→Prop}(hP:∀ H',Pre H H'→P (.int (if mo then ss nds o else ks nds o)) H'):R.f (callF K (n+1) hd 785 [.ref i,.int o,.bool mo] [] H) P X:=by
 rw [F.u_785]
 have hl:=L.len
 simp only [↓n_bind]
 refine n_lcQ (Q:=λ nd (r:Option V)=>match Nd.gl nd with | some g=>∃ u,r=some u∧GlAt H u g | none=>r=none) L.h L.a L.n200 (λ v nd hm H' hp hn=>?_) λ rs H' hp hQ=>?_
 ·have e:=λ{P:V→Hp→Prop}{X:Addr→Hp→Prop}=>nd_kind F (X:=X) hn (P:=P)
  have ho:=L.ok nd hm
  cases nd with
  | box=>rcases ho.1 with rfl | rfl<;>simp [↓n_bind,↓n_K,↓n_pure,↓n_eqI,↓n_ifb,n_iF,↓e,Nd.kind,Nd.gl,Pre.refl]
  | skip g s=>
   obtain⟨x,rfl,u,h1,j,rfl,h2⟩:=id hn
   simp [↓n_bind,↓n_K,↓n_pure,↓n_eqI,↓n_ifb,n_iT,↓e,Nd.kind,Nd.gl,Pre.refl,↓sk_g F h1 sR]
   rintro ⟨x',q,u',k1,k2⟩
   cases q
   have:=(hp _ _ k1).symm.trans h1
   cases this
   exact k2
  | _=>simp [↓n_bind,↓n_K,↓n_pure,↓n_eqI,↓n_ifb,n_iF,↓e,Nd.kind,Nd.gl,Pre.refl]
 ·have ha:=all2_gl hQ
  have hgl:(nds.filterMap Nd.gl).length≤100:=Nat.le_trans (List.length_filterMap_le Nd.gl nds) hl
  generalize rs.filterMap id=us at ha
  simp only [↓n_bind,↓n_K,↓n_asB,↓n_alloc,↓n_ifb]
  have p1:=hp.app' [.list us]
  have e1:=at_last (H:=H') (o:=.list us)
  generalize H'.length=j at e1
  generalize H'++[.list us]=H1 at p1 e1
  have a1:All2 (GlAt H1) us (nds.filterMap Nd.gl):=ha.mono λ _ _ q=>q.mono p1
  cases mo with
  | true=>
   simp only [↓n_bind,n_iT]
   refine n_lcL e1 a1 (Nat.lt_of_le_of_lt hgl (by decide)) (λ g=>if g.so=o then some (V.int g.s) else none) (λ v g _ hg H2 hp2=>?_) λ H2 hp2=>?_
   ·obtain⟨x,rfl,hx⟩:=hg.mono hp2
    by_cases h:g.so=o<;>simp [↓n_bind,↓n_K,↓n_pure,↓n_eqI,↓n_ifb,n_iT,n_iF,↓gl_so F hx,↓gl_s F hx,h,Pre.refl]
   ·have hsl:=List.length_filterMap_le (λ g:Gl=>if g.so=o then some (V.int g.s) else none) (nds.filterMap Nd.gl)
    simp only [↓n_bind,↓n_K,↓n_alloc]
    rw [n_sumL at_last (Nat.le_trans hsl (Nat.le_trans hgl (by decide))) (ss_gl nds o)]
    exact hP _ ((p1.trans hp2).app' _)
  | false=>
   simp only [↓n_bind,n_iF]
   refine n_lcL e1 a1 (Nat.lt_of_le_of_lt hgl (by decide)) (λ g=>if g.ko=o then some (V.int g.k) else none) (λ v g _ hg H2 hp2=>?_) λ H2 hp2=>?_
   ·obtain⟨x,rfl,hx⟩:=hg.mono hp2
    by_cases h:g.ko=o<;>simp [↓n_bind,↓n_K,↓n_pure,↓n_eqI,↓n_ifb,n_iT,n_iF,↓gl_ko F hx,↓gl_k F hx,h,Pre.refl]
   ·have hsl:=List.length_filterMap_le (λ g:Gl=>if g.ko=o then some (V.int g.k) else none) (nds.filterMap Nd.gl)
    simp only [↓n_bind,↓n_K,↓n_alloc]
    rw [n_sumL at_last (Nat.le_trans hsl (Nat.le_trans hgl (by decide))) (ks_gl nds o)]
    exact hP _ ((p1.trans hp2).app' _)
theorem f_lbad{e t:Int}(he:0≤e∧e≤7230584)(ht:t<9223372036854775808){P:V→Hp→Prop}:R.f (callF K (n+1) hd 792 [.int e,.int t] [] H) P X=P (.int (vbad e t)) H:=by
 refine det ?_
 rw [F.u_792]
 unfold vbad
 by_cases h0:e=0
 ·simp [↓n_bind,↓n_K,↓n_Kr,↓n_pure,↓n_eqI,↓n_ifb,n_iT,h0]
 by_cases h1:0<t
 ·have hq:0≤(297*e).fdiv t:=Int.fdiv_nonneg (Int.mul_nonneg (by decide) he.1) (Int.le_of_lt h1)
  have hc:e*297=297*e:=Int.mul_comm _ _
  have h1':¬ t≤0:=Int.not_le.mpr h1
  rw [hc]
  simp only [↓n_bind,↓n_K,↓n_gt,↓n_eqI,↓n_ifb,n_iT,n_iF,h0,h1,decide_true,decide_false,h1',if_false]
  rw [n_mul (mul_small (by decide))]
  dsimp only [↓n_K]
  rw [n_div (div_small ⟨h1,ht⟩)]
  dsimp only [↓n_K,↓n_bind]
  generalize (297*e).fdiv t=r at hq
  dsimp only [↓n_gt]
  by_cases h2:1290<r
  ·simp [↓n_bind,↓n_K,↓n_Kr,↓n_pure,↓n_ifb,n_iT,h2]
  ·have h2':¬ r>1290:=h2
   simp only [↓n_bind,↓n_K,↓n_ifb,n_iF,h2,decide_false,h2',if_false]
   have hp3:powOk r 3=true:=(Bool.and_eq_true _ _).mpr ⟨rfl,decide_eq_true (absL ⟨Int.lt_of_lt_of_le (by decide) hq,Int.lt_of_le_of_lt (Int.not_lt.mp h2) (by decide)⟩)⟩
   rw [n_pow hp3]
   dsimp only [↓n_K,↓n_bind]
   rw [n_mul (mul_small (by decide))]
   dsimp only [↓n_K,↓n_bind]
   rw [n_pow (by decide)]
   dsimp only [↓n_K,↓n_bind,↓n_add]
   rw [n_pow (by decide)]
   dsimp only [↓n_K]
   rw [n_div (div_small (by decide))]
   dsimp only [↓n_K,↓n_pure,↓n_Kr]
   refine⟨?_,rfl⟩
   have e3:r^(3:Int).toNat=r*r*r:=by
    show r^3=_
    simp only [Int.pow_succ,Int.pow_succ,Int.pow_succ,Int.pow_zero,Int.one_mul]
   rw [e3]
   generalize r*r*r=c
   rw [Int.fdiv_eq_ediv_of_nonneg _ (by decide),Int.fdiv_eq_ediv_of_nonneg _ (by decide)]
   congr 1
   exact(congrArg (· / 524288) (show 2*c+262144=2*(c+131072) by simp only [Int.mul_add];rfl)).trans (Int.mul_ediv_mul_of_pos (c+131072) 262144 (by decide:(0:Int)<2))
 ·have h1':t≤0:=Int.not_lt.mp h1
  simp [↓n_bind,↓n_K,↓n_Kr,↓n_pure,↓n_gt,↓n_eqI,↓n_ifb,n_iT,n_iF,h0,h1,h1']
end
end VW.Internal
end
section
open PySem PySem.W PySem.SeqAt
set_option backward.match.sparseCases false
set_option maxRecDepth 100000
namespace VW.Internal
open VS.Internal
noncomputable def priceL(ab:List Nd)(goal cap v:Int):Int:=chere (if ab.isEmpty then 0 else nat ab cap) (ss ab) (ks ab 0) goal v
theorem price_take{nds:List Nd}{goal cap:Int}{j:Nat}(hj:j≤nds.length)(v:Int):priceL (nds.take j) goal cap v=price nds goal cap j v:=by
 unfold priceL price hgt
 cases j with
 | zero=>rfl
 | succ j=>
  have:(nds.take (j+1)).isEmpty=false:=by
   cases nds with
   | nil=>simp at hj
   | cons a r=>simp
  rw [this];rfl
theorem cut_mid{xs:List V}{j:Nat}(h:j≤xs.length):cutL (some ((j:Int)+1)) (some ((j:Int)+2)) xs=(xs.drop (j+1)).take 1:=by
 unfold cutL kms_lo kms_hi
 dsimp only
 rw [if_neg (show ¬(j:Int)+1<0 from Int.not_lt.mpr (Int.natCast_nonneg (j+1))),if_neg (show ¬(j:Int)+2<0 from Int.not_lt.mpr (Int.natCast_nonneg (j+2))),show((j:Int)+1).toNat=j+1 from rfl,show((j:Int)+2).toNat=j+2 from rfl]
 rcases Nat.lt_or_ge (j+1) xs.length with q | q
 ·rw [Nat.min_eq_left (by assumption),Nat.min_eq_left (by exact Nat.le_of_lt (by assumption))]
  exact congrArg (List.take · _) (show j+2-(j+1)=1 from Nat.add_sub_cancel_left (j+1) 1)
 ·rw [Nat.min_eq_right q,Nat.min_eq_right (Nat.le_succ_of_le q)]
  rw [List.drop_of_length_le (Nat.le_refl _),List.drop_of_length_le q];simp
noncomputable def penB(nds:List Nd)(j:Nat)(nd:Nd):Option Int:=match nd with
 | .pen v=>some v
 | .skip ..=>(match j with
  | 0=>none
  | j+1=>if(nds[j]?.map Nd.stands)=some true then some 0 else none)
 | .kern _=>if nds[j+1]?.map Nd.kind=some 6 then some 0 else none
 | _=>none
theorem pen_eq{nds:List Nd}{j:Nat}{nd:Nd}(he:¬ j=nds.length)(h:nds[j]? = some nd):pen nds j=penB nds j nd:=by
 unfold pen
 rw [if_neg he,h]
 cases nd<;>rfl
section
variable{K:Frag}(F:KF K){H0 H:Hp}{X:Addr→Hp→Prop}{n:Nat}{hd:Bool}{i:Nat}{vs:List V}{nds:List Nd}
include F
theorem f_fee(L:Ls H i vs nds){j:Nat}(hj:j≤nds.length){P:V→Hp→Prop}(hP:∀ H',Pre H H'→P (oV (fee nds j)) H'):R.f (callF K (n+1) hd 797 [.ref i,.int (j:Int)] [] H) P X:=by
 rw [F.u_797]
 have hl:=L.lenV
 have en:=λ{P:V→Hp→Prop}{X:Addr→Hp→Prop}=>n_len L.h (X:=X) L.v1000 (P:=P)
 dsimp only [↓n_bind]
 rw [en]
 dsimp only [↓n_K,↓n_bind,↓n_eqI,↓n_ifb]
 simp only [n_iD]
 by_cases he:j=nds.length
 ·refine⟨λ _=>?_,λ q=>absurd (congrArg Int.ofNat (he.trans hl.symm)) q⟩
  have:=hP H (.refl _)
  simpa [fee,pen,he,oV,↓n_Kr,↓n_pure] using this
 refine⟨λ q=>(he ((Int.ofNat_inj.mp q).trans hl)).elim,λ _=>?_⟩
 have hjl:j<nds.length:=Nat.lt_of_le_of_ne hj he
 obtain⟨nd,hnd⟩:∃ nd,nds[j]? = some nd:=⟨nds[j],List.getElem?_eq_getElem hjl⟩
 obtain⟨v,hv,hn,hg⟩:=get_node F L hnd
 have e:=λ{P:V→Hp→Prop}{X:Addr→Hp→Prop}=>nd_kind F (X:=X) hn (P:=P)
 have ho:=L.ok.get hnd
 have hp0:=pen_eq he hnd
 dsimp only [↓n_bind]
 rw [hg]
 dsimp only [↓n_K,↓n_bind]
 rw [e]
 dsimp only [↓n_K,↓n_bind,↓n_eqI,↓n_ifb]
 cases nd with
 | pen w=>
  obtain⟨x,rfl,h1⟩:=id hn
  have:=hP H (.refl _)
  unfold fee at this
  rw [hp0] at this
  dsimp only [penB] at this
  by_cases q:w<10000<;>simpa [Nd.kind,↓n_bind,↓n_K,↓n_Kr,↓n_pure,↓n_lt,↓n_ifb,n_iT,n_iF,hg,↓e,↓pe_v F h1,q,oV] using this
 | skip g s=>
  have:=hP H (.refl _)
  unfold fee at this
  rw [hp0] at this
  dsimp only [penB] at this
  cases j with
  | zero=>simpa [Nd.kind,↓n_bind,↓n_K,↓n_Kr,↓n_pure,↓n_asB,↓n_gt,↓n_eqI,↓n_ifb,n_iT,n_iF,hg,↓e,oV] using this
  | succ j=>
   obtain⟨nd',hnd'⟩:∃ nd',nds[j]? = some nd':=⟨nds[j],List.getElem?_eq_getElem (by assumption)⟩
   obtain⟨v',hv',hn',hg'⟩:=get_node F L hnd'
   have e':=λ{P:V→Hp→Prop}{X:Addr→Hp→Prop}=>nd_kind F (X:=X) hn' (P:=P)
   have ej:((j+1:Nat):Int)-1=(j:Int):=Int.add_sub_cancel (j:Int) 1
   have hin:=λ{P:Bool→Hp→Prop}{X:Addr→Hp→Prop}=>n_notin (H:=H) (X:=X) (i:=nd'.kind) (vs:=[.int 5,.int 6,.int 7]) (ns:=[5,6,7]) rfl (P:=P)
   have hst:(!([5,6,7]:List Int).any (· == nd'.kind))=nd'.stands:=by
    have:=kind_ok (L.ok.get hnd')
    unfold Nd.stands
    rcases this with q | q | q | q | q | q | q | q | q<;>rw [q]<;>decide
   rw [hst] at hin
   simp only [hnd',Option.map_some,Option.some.injEq] at this
   have k6:(Nd.skip g s).kind=6:=rfl
   have e0:(0:Int)<((j+1:Nat):Int):=Int.ofNat_lt.mpr (Nat.succ_pos j)
   cases hs:nd'.stands with
   | true=>rw [hs] at this hin;simpa [↓n_bind,↓n_K,↓n_Kr,↓n_pure,↓n_asB,↓n_gt,↓n_sub,↓n_eqI,↓n_ifb,n_iT,n_iF,oV,hg,k6,↓e0,ej,hg',↓e',hin] using this
   | false=>rw [hs] at this hin;simpa [↓n_bind,↓n_K,↓n_Kr,↓n_pure,↓n_asB,↓n_gt,↓n_sub,↓n_eqI,↓n_ifb,n_iT,n_iF,oV,hg,k6,↓e0,ej,hg',↓e',hin] using this
 | kern w=>
  simp [Nd.kind,↓n_bind,↓n_K,↓n_add,↓n_eqI,↓n_ifb,n_iT,n_iF,hg,↓e]
  rw [n_sliceL L.h L.v1000 pt_int pt_int,cut_mid (Nat.le_trans hj (Nat.le_of_eq hl.symm))]
  dsimp only [↓n_K]
  have p1:=Pre.app H [O.list ((vs.drop (j+1)).take 1)]
  have e1:=at_last (H:=H) (o:=O.list ((vs.drop (j+1)).take 1))
  have a1:All2 (NdAt (H++[O.list ((vs.drop (j+1)).take 1)])) ((vs.drop (j+1)).take 1) ((nds.drop (j+1)).take 1):=((L.a.mono λ _ _ q=>q.mono p1).drop (j+1)).take 1
  generalize H++[O.list ((vs.drop (j+1)).take 1)]=H1 at p1 e1 a1
  dsimp only [↓n_bind]
  refine n_lcN e1 a1 (by rw [List.length_take];exact Nat.lt_of_le_of_lt (Nat.min_le_left _ _) (by decide)) (λ nd=>some (.int nd.kind)) (λ v nd hm H' hp hn=>?_) λ H' hp=>?_
  ·dsimp only [↓n_bind]
   rw [nd_kind F hn];exact⟨rfl,.refl _⟩
  ·simp only [↓n_bind,↓n_K,↓n_alloc]
   have e2:((nds.drop (j+1)).take 1).filterMap (λ nd=>some (V.int nd.kind))=(((nds.drop (j+1)).take 1).map Nd.kind).map V.int:=by simp [List.map_map,Function.comp_def]
   rw [e2,n_eqL (Pre.app _ _ _ _ at_last) at_last (b:=decide (((nds.drop (j+1)).take 1).map Nd.kind=[6])) (by
    have:=pq_ints (ms:=((nds.drop (j+1)).take 1).map Nd.kind) (ns:=[6])
    split
    ·exact this
    ·rename_i q
     refine decide_eq_false λ z=>q ?_
     rw [z];rfl)]
   have pf:=(p1.trans hp).app' [O.list ((((nds.drop (j+1)).take 1).map Nd.kind).map V.int)]
   have:=hP _ (pf.app' [O.list [.int 6]])
   unfold fee at this
   rw [hp0] at this
   dsimp only [penB] at this
   have hk:(((nds.drop (j+1)).take 1).map Nd.kind=[6])↔nds[j+1]?.map Nd.kind=some 6:=by
    cases hq:nds[j+1]? with
    | none=>
     have:nds.drop (j+1)=[]:=List.drop_of_length_le (List.getElem?_eq_none_iff.mp hq)
     simp [this]
    | some y=>
     obtain⟨hlt,hy⟩:=List.getElem?_eq_some_iff.mp hq
     simp only [List.drop_eq_getElem_cons hlt,hy]
     simp
   by_cases hq:nds[j+1]?.map Nd.kind=some 6
   ·have d:decide (((nds.drop (j+1)).take 1).map Nd.kind=[6])=true:=decide_eq_true (hk.mpr hq)
    rw [d]
    rw [hq] at this
    simpa [↓n_bind,↓n_K,↓n_Kr,↓n_pure,↓n_asB,↓n_ifb,n_iT,oV] using this
   ·have d:decide (((nds.drop (j+1)).take 1).map Nd.kind=[6])=false:=decide_eq_false λ z=>hq (hk.mp z)
    rw [d]
    simp only [hq] at this
    simpa [↓n_bind,↓n_K,↓n_Kr,↓n_pure,↓n_asB,↓n_ifb,n_iF,oV] using this
 | box k=>
  have:=hP H (.refl _)
  unfold fee at this
  rw [hp0] at this
  dsimp only [penB] at this
  rcases ho.1 with rfl | rfl<;>simpa [Nd.kind,oV,↓n_bind,↓n_K,↓n_Kr,↓n_pure,↓n_asB,↓n_eqI,↓n_ifb,n_iF,hg,↓e] using this
 | _=>
  have:=hP H (.refl _)
  unfold fee at this
  rw [hp0] at this
  dsimp only [penB] at this
  simpa [Nd.kind,oV,↓n_bind,↓n_K,↓n_Kr,↓n_pure,↓n_asB,↓n_eqI,↓n_ifb,n_iF,hg,↓e] using this
theorem f_price(L:Ls H i vs nds){v goal cap:Int}(hg:-1000000≤goal∧goal≤1000000)(hc:-100≤cap∧cap≤1073741823){P:V→Hp→Prop}(hP:∀ H',Pre H H'→P (.int (priceL nds goal cap v)) H'):R.f (callF K (n+3) hd 802 [.ref i,.int v,.int goal,.int cap] [] H) P X:=by
 rw [F.u_802]
 have hlen:=L.len
 have hss:=λ o=>ss_le L.ok o
 have hks:=λ o=>ks_le L.ok o
 have hnat:-100000≤(if nds.isEmpty then 0 else nat nds cap)∧(if nds.isEmpty then 0 else nat nds cap)≤100000:=by
  split
  ·exact⟨by decide,by decide⟩
  ·exact tm_le L.ok hlen hc.1
 unfold priceL at hP
 generalize ha:(if nds.isEmpty then 0 else nat nds cap)=a at hP hnat
 simp only [↓n_bind,↓n_K,↓n_alloc]
 simp only [n_ne,n_eqL (Pre.app _ _ _ _ L.h) at_last eq_nil,L.a.nil_iff]
 dsimp only [↓n_K,↓n_bind]
 have gap:∀{Q:V→Hp→Prop},(∀ H',Pre H H'→Q (.int (goal-a)) H')→R.f ((if(!nds.isEmpty)=true then c_802_1 (callF K (n+2) hd) (.ref i) (.int goal) (.int cap) else M.pure (.int goal)) (H++[.list []])) Q X:=λ{Q} hQ=>by
  have L1:=L.mono (Pre.app H [O.list []])
  cases he:nds.isEmpty with
  | true=>
   rw [he,if_pos rfl] at ha
   have:=hQ _ (Pre.app H [O.list []])
   rw [←ha] at this
   simpa [↓n_pure,↓n_ifb,n_iF,Bool.not_true] using this
  | false=>
   simp only [↓n_bind,↓n_ifb,n_iT,Bool.not_false]
   refine f_total F L1 λ H2 p2=>?_
   simp only [↓n_bind,↓n_K]
   refine f_low F (L1.mono p2) λ H3 p3=>?_
   simp only [↓n_bind,↓n_K,↓n_sub]
   rw [he,if_neg (by simp)] at ha
   have:=hQ H3 ((Pre.app H [O.list []]).trans (p2.trans p3))
   rw [←ha] at this
   exact this
 refine gap λ H1 p1=>?_
 have L1:=L.mono p1
 clear gap
 generalize hgp:goal-a=gp
 have hgb:-1100000≤gp∧gp≤1100000:=hgp▸wid (isub hg hnat) (by decide) (by decide)
 have hlt:a<goal↔0<gp:=hgp▸⟨Int.sub_pos_of_lt,Int.lt_of_sub_pos⟩
 have hng:-gp=a-goal:=hgp▸Int.neg_sub goal a
 simp only [↓n_bind,↓n_K,↓n_gt,↓n_abs]
 refine f_sum F L1 λ H2 p2=>?_
 dsimp only [↓n_K,↓n_bind]
 rw [f_lbad F (wid (abs_le hgb) (by decide) (by decide)) (by split;exact(s63 (hss 0) hlen).2;exact(s63 (hks 0) hlen).2)]
 have L2:=L1.mono p2
 have p02:=p1.trans p2
 generalize hb:vbad gp.natAbs (if(decide (0<gp))=true then ss nds 0 else ks nds 0)=bad
 have hbad:0≤bad∧bad≤10000:=by rw [←hb];exact vbad_le (Int.natCast_nonneg _)
 have tail:∀ b0 H3,(b0<10000∨b0=10000)→Pre H2 H3→(∀ H',Pre H H'→¬(gp<0∧ks nds 0 < -gp)→P (.int (if v≤-10000 then v else if b0<10000 then b0+v else 100000)) H')→(∀ H',Pre H H'→(gp<0∧ks nds 0 < -gp)→P (.int AWFUL) H')→
   R.f (c_802_12 (callF K (n+2) hd) (.ref i) (.int v) (.int gp) (.int b0) H3) (Kf P) X:=by
  intro b0 H3 hb0 p3 h1 h2
  have rest:∀ H4,Pre H2 H4→¬(gp<0∧ks nds 0 < -gp)→R.f (c_704_2 (.int v) (.int b0) H4) (Kf P) X:=λ H4 p4 hn=>by
   have:=h1 H4 (p02.trans p4) hn
   by_cases q1:v≤-10000
   ·simpa [↓n_bind,↓n_K,↓n_Kr,↓n_pure,↓n_le,↓n_ifb,n_iT,q1] using this
   ·by_cases q2:b0<10000<;>simpa [↓n_bind,↓n_K,↓n_Kr,↓n_pure,↓n_lt,↓n_le,↓n_add,↓n_ifb,n_iT,n_iF,q1,q2] using this
  dsimp only [↓n_bind,↓n_lt,↓n_K,↓n_ifb]
  simp only [n_iD]
  refine⟨λ q=>?_,λ q=>?_⟩
  ·have q':gp<0:=q
   simp only [↓n_bind,↓n_K,↓n_neg]
   refine f_sum F (L2.mono p3) λ H4 p4=>?_
   dsimp only [↓n_K,↓n_bind,↓n_gt,↓n_pure,↓n_asB,↓n_ifb]
   simp only [n_iD]
   refine⟨λ z=>?_,λ z=>rest H4 (p3.trans p4) λ w=>?_⟩
   ·have z':ks nds 0 < -gp:=z
    dsimp only [↓n_bind]
    rw [n_pow (by decide)]
    dsimp only [↓n_K,↓n_bind,↓n_sub,↓n_pure,↓n_Kr]
    exact h2 H4 (p02.trans (p3.trans p4)) ⟨q',z'⟩
   ·have z':¬ ks nds 0 < -gp:=z
    exact z' w.2
  ·have q':¬ gp<0:=q
   dsimp only [↓n_pure,↓n_K,↓n_bind,↓n_asB,↓n_ifb,↓n_iF]
   exact rest H3 p3 λ w=>q' w.1
 have pr0:gp<0→ks nds 0 < -gp→chere a (ss nds) (ks nds 0) goal v=AWFUL:=λ h1 h2=>by
  have:ccost a (ss nds) (ks nds 0) goal=AWFUL:=by
   unfold ccost
   rw [if_neg λ z=>absurd (hlt.mp z) (Int.not_lt.mpr (Int.le_of_lt h1)),if_pos (hng▸h2)]
  unfold chere
  rw [if_pos this]
 have pr1:∀ b0,(b0<10000∨b0=10000)→¬(gp<0∧ks nds 0 < -gp)→ccost a (ss nds) (ks nds 0) goal=b0→chere a (ss nds) (ks nds 0) goal v=(if v≤-10000 then v else if b0<10000 then b0+v else 100000):=λ b0 h0 h1 h2=>by
  unfold chere
  rw [h2,if_neg (show ¬ b0=AWFUL from λ z=>absurd (z▸h0) (by decide:¬(AWFUL<10000∨AWFUL=10000)))]
 have done:∀ b0 H3,(b0<10000∨b0=10000)→Pre H2 H3→(¬(gp<0∧ks nds 0 < -gp)→ccost a (ss nds) (ks nds 0) goal=b0)→R.f _ _ _:=λ b0 H3 h0 p3 hcc=>
  tail b0 H3 h0 p3 (λ H' p hn=>by rw [←pr1 b0 h0 hn (hcc hn)];exact hP H' p) (λ H' p hn=>by rw [←pr0 hn.1 hn.2];exact hP H' p)
 have cbad:(¬(0<gp)∨(ss nds 1=0∧ss nds 2=0∧ss nds 3=0))→¬(gp<0∧ks nds 0 < -gp)→ccost a (ss nds) (ks nds 0) goal=bad:=λ h1 h2=>by
  unfold ccost
  by_cases q:0<gp
  ·have h3:ss nds 1=0∧ss nds 2=0∧ss nds 3=0:=h1.elim (λ z=>absurd q z) id
   rw [if_pos (hlt.mpr q),if_neg (by rw [h3.1,h3.2.1,h3.2.2];simp),←hb]
   simp only [q,decide_true,if_true]
   rw [(Int.natAbs_of_nonneg (Int.le_of_lt q)).trans hgp.symm]
  ·have:=(hks 0).1
   rw [if_neg λ z=>q (hlt.mp z),if_neg λ z=>h2 ⟨Int.neg_pos.mp (Int.lt_of_le_of_lt this (hng▸z)),hng▸z⟩,←hb]
   simp only [q,decide_false,Bool.false_eq_true,if_false]
   rw [(Int.ofNat_natAbs_of_nonpos (Int.not_lt.mp q)).trans hng]
 dsimp only [↓n_K,↓n_bind,↓n_gt,↓n_ifb]
 simp only [n_iD]
 refine⟨λ q=>?_,λ q=>?_⟩
 ·have q':0<gp:=q
  dsimp only [↓n_bind]
  refine n_lcT (Rl:=λ v (o:Int)=>v = .int o) (bs:=[1,2,3]) (.cons rfl (.cons rfl (.cons rfl .nil))) (by decide) (λ o=>if ss nds o≠0 then some (.int o) else none) (λ w o _ hw H' hp=>?_) λ H' hp=>?_
  ·subst hw
   dsimp only [↓n_bind]
   refine f_sum F (L2.mono hp) λ H4 p4=>?_
   by_cases z:ss nds o=0<;>simp [↓n_bind,↓n_K,↓n_pure,↓n_neI,↓n_ifb,n_iT,n_iF,Bool.not_false,Bool.not_true,z,p4]
  ·have p3:=hp.app' [O.list (([1,2,3]:List Int).filterMap λ o=>if ss nds o≠0 then some (V.int o) else none)]
   simp only [↓n_bind,↓n_K,↓n_alloc]
   rw [n_ne,n_eqL (Pre.app _ _ _ _ at_last) at_last eq_nil]
   simp only [↓n_bind,↓n_K,↓n_pure,↓n_asB,↓n_ifb]
   simp only [n_iU]
   have p4:=p3.app' [O.list []]
   by_cases z:ss nds 1=0∧ss nds 2=0∧ss nds 3=0
   ·refine⟨λ w=>by simp [z] at w,λ _=>?_⟩
    exact done bad _ (Int.lt_or_eq_of_le hbad.2) p4 (cbad (.inr z))
   ·refine⟨λ _=>?_,λ w=>?_⟩
    ·refine done 0 _ (.inl (by decide)) p4 λ hn=>?_
     unfold ccost
     rw [if_pos (hlt.mpr q'),if_pos ((Decidable.not_and_iff_not_or_not.mp z).imp id Decidable.not_and_iff_not_or_not.mp)]
    ·exfalso
     apply z
     by_cases z1:ss nds 1=0<;>by_cases z2:ss nds 2=0<;>by_cases z3:ss nds 3=0<;>simp [z1,z2,z3] at w ⊢
 ·have q':¬ 0<gp:=q
  dsimp only [↓n_pure,↓n_K,↓n_bind,↓n_asB,↓n_ifb,↓n_iF]
  exact done bad H2 (Int.lt_or_eq_of_le hbad.2) (.refl _) (cbad (.inl q'))
end
end VW.Internal
end
section
open PySem PySem.W PySem.SeqAt
set_option backward.match.sparseCases false
set_option maxRecDepth 100000
namespace VW.Internal
open VS.Internal
noncomputable def LastMin(f:Nat→Int)(e b:Nat):Prop:=b≤e∧(∀ k,k≤e→f b≤f k)∧∀ k,k≤e→b<k→f b<f k
theorem lastMin_ex(f:Nat→Int):∀ e,∃ b,LastMin f e b
 | 0=>⟨0,Nat.le_refl _,λ k hk=>by rw [Nat.le_zero.mp hk];exact Int.le_refl _,λ k hk hb=>(Nat.lt_irrefl 0 (Nat.lt_of_lt_of_le hb hk)).elim⟩
 | e+1=>by
  obtain⟨b,h1,h2,h3⟩:=lastMin_ex f e
  by_cases h:f (e+1)≤f b
  ·refine⟨e+1,Nat.le_refl _,λ k hk=>?_,λ k hk hb=>by omega⟩
   rcases Nat.lt_or_ge k (e+1) with q | q
   ·exact Int.le_trans h (h2 k (Nat.le_of_lt_succ q))
   ·have:k=e+1:=Nat.le_antisymm hk q
    subst this;exact Int.le_refl _
  ·refine⟨b,by lia,λ k hk=>?_,λ k hk hb=>?_⟩
   ·rcases Nat.lt_or_ge k (e+1) with q | q
    ·exact h2 k (Nat.le_of_lt_succ q)
    ·have:k=e+1:=Nat.le_antisymm hk q
     subst this;exact Int.le_of_lt (Int.not_le.mp h)
   ·rcases Nat.lt_or_ge k (e+1) with q | q
    ·exact h3 k (Nat.le_of_lt_succ q) hb
    ·have:k=e+1:=Nat.le_antisymm hk q
     subst this;exact Int.not_le.mp h
noncomputable def cT(T:List (Nat × Int × Bool))(k:Nat):Int:=((T[k]?).map (·.2.1)).getD 0
theorem scan_char:∀(T:List (Nat × Int × Bool)) (b0:Nat) (l0:Int) (e b:Nat) (p:Nat × Int × Bool),(T[e]?.map (·.2.2))=some true→(∀ k,k<e→(T[k]?.map (·.2.2))=some false)→LastMin (cT T) e b→T[b]? = some p→
  scanL T b0 l0=some (if p.2.1≤l0 then(p.1,p.2.1) else(b0,l0))
 | [],_,_,_,_,_,h,_,_,_=>by simp at h
 | (j,c,ee)::r,b0,l0,e,b,p,he,hf,hm,hb=>by
  simp only [scanL]
  cases e with
  | zero=>
   simp at he
   rw [he]
   have:b=0:=by have:=hm.1;lia
   subst this
   simp at hb;subst hb
   rfl
  | succ e=>
   have h0:=hf 0 (by lia)
   simp at h0
   subst h0
   simp only [Bool.false_eq_true,if_false]
   have he':(r[e]?.map (·.2.2))=some true:=he
   have hf':∀ k,k<e→(r[k]?.map (·.2.2))=some false:=λ k hk=>by simpa using hf (k+1) (by lia)
   have hc:∀ k,cT ((j,c,false)::r) (k+1)=cT r k:=λ k=>by rfl
   have hc0:cT ((j,c,false)::r) 0=c:=by rfl
   cases b with
   | zero=>
    simp at hb;subst hb
    obtain⟨b',hb'⟩:=lastMin_ex (cT r) e
    obtain⟨q,hq⟩:∃ q,r[b']? = some q:=by
     have he2:e<r.length:=by
      cases hq:r[e]? with
      | none=>rw [hq] at he';simp at he'
      | some _=>exact(List.getElem?_eq_some_iff.mp hq).1
     exact⟨_,List.getElem?_eq_getElem (by have:=hb'.1;lia)⟩
    have hlt:c<q.2.1:=by
     have:=hm.2.2 (b'+1) (by have:=hb'.1;omega) (by lia)
     rw [hc0,hc] at this
     simpa [cT,hq] using this
    rw [scan_char r _ _ e b' q he' hf' hb' hq]
    by_cases h1:c≤l0
    ·simp only [h1,if_true]
     rw [if_neg (by lia)]
    ·simp only [h1,if_false]
     rw [if_neg (by lia)]
   | succ b=>
    have hb2:r[b]? = some p:=by simpa using hb
    have hm':LastMin (cT r) e b:=⟨by have:=hm.1;lia,λ k hk=>by have:=hm.2.1 (k+1) (by omega);rwa [hc,hc] at this,λ k hk hbk=>by have:=hm.2.2 (k+1) (by lia) (by lia);rwa [hc,hc] at this⟩
    have hle:p.2.1≤c:=by
     have:=hm.2.1 0 (by lia)
     rw [hc0,hc] at this
     simpa [cT,hb2] using this
    rw [scan_char r _ _ e b p he' hf' hm' hb2]
    by_cases h1:c≤l0
    ·simp only [h1,if_true]
     rw [if_pos hle,if_pos (by lia)]
    ·simp only [h1,if_false]
theorem scan_noend:∀(T:List (Nat × Int × Bool)) (b0:Nat) (l0:Int),(∀ p∈T,p.2.2=false)→scanL T b0 l0=none
 | [],_,_,_=>rfl
 | (j,c,e)::r,b0,l0,h=>by
  have:e=false:=h (j,c,e) (.head _)
  subst this
  dsimp only [scanL,Bool.false_eq_true,if_false]
  exact scan_noend r _ _ λ p hp=>h p (.tail _ hp)
noncomputable def ends0(nds:List Nd):List Nat:=(List.range nds.length).filter (endAt nds)
noncomputable def lim(nds:List Nd):Nat:=(ends0 nds).headD nds.length
noncomputable def isLegal(nds:List Nd)(j:Nat):Bool:=(fee nds j).isSome&&decide (j≤lim nds)
noncomputable def legal(nds:List Nd):List Nat:=(List.range (nds.length+1)).filter (isLegal nds)
noncomputable def pj(nds:List Nd)(goal cap:Int)(j:Nat):Int:=price nds goal cap j ((fee nds j).getD 0)
noncomputable def tr(nds:List Nd)(goal cap:Int)(j:Nat):Nat × Int × Bool:=(j,pj nds goal cap j,decide (pj nds goal cap j=AWFUL)||decide ((fee nds j).getD 0≤-10000))
theorem headD_filter_range(p:Nat→Bool):∀(m s d:Nat),(∀ x,x<((List.range' s m).filter p).headD d→s≤x→x<s+m→p x=false)∧((((List.range' s m).filter p).headD d=d∧∀ x,s≤x→x<s+m→p x=false)∨p (((List.range' s m).filter p).headD d)=true)
 | 0,s,d=>⟨λ x _ h1 h2=>by lia,.inl ⟨rfl,λ x h1 h2=>by lia⟩⟩
 | m+1,s,d=>by
  rw [List.range'_succ]
  by_cases h:p s=true
  ·rw [List.filter_cons_of_pos h]
   refine⟨λ x hx h1 h2=>?_,.inr h⟩
   simp at hx;lia
  ·have ih:=headD_filter_range p m (s+1) d
   rw [List.filter_cons_of_neg h]
   refine⟨λ x hx h1 h2=>?_,?_⟩
   ·rcases Nat.eq_or_lt_of_le h1 with q | q
    ·rw [←q];simpa using h
    ·exact ih.1 x hx q (Nat.lt_of_lt_of_eq h2 (Nat.succ_add_eq_add_succ s m).symm)
   ·rcases ih.2 with ⟨q1,q2⟩ | q
    ·refine .inl ⟨q1,λ x h1 h2=>?_⟩
     rcases Nat.eq_or_lt_of_le h1 with q | q
     ·rw [←q];simpa using h
     ·exact q2 x q (Nat.lt_of_lt_of_eq h2 (Nat.succ_add_eq_add_succ s m).symm)
    ·exact .inr q
theorem lim_before{nds:List Nd}{x:Nat}(h:x<lim nds):endAt nds x=false:=by
 have:=headD_filter_range (endAt nds) nds.length 0 nds.length
 rcases Nat.lt_or_ge x nds.length with q | q
 ·refine this.1 x ?_ (by lia) (by lia)
  unfold lim ends0 at h
  rwa [List.range_eq_range'] at h
 ·unfold endAt
  rw [List.getElem?_eq_none q];rfl
theorem lim_le(nds:List Nd):lim nds≤nds.length:=by
 unfold lim ends0
 cases h:(List.range nds.length).filter (endAt nds) with
 | nil=>simp
 | cons a r=>
  have:a∈(List.range nds.length).filter (endAt nds):=by rw [h];exact .head _
  have:=List.mem_range.mp (List.mem_filter.mp this).1
  simp;exact Nat.le_of_lt (by assumption)
theorem lim_end{nds:List Nd}(h:lim nds<nds.length):endAt nds (lim nds)=true:=by
 have:=(headD_filter_range (endAt nds) nds.length 0 nds.length).2
 have e:((List.range' 0 nds.length).filter (endAt nds)).headD nds.length=lim nds:=by unfold lim ends0;rw [List.range_eq_range']
 rw [e] at this
 rcases this with ⟨q,_⟩ | q
 ·lia
 ·exact q
theorem cands_eq(nds:List Nd)(goal cap:Int):∀ m j,j≤lim nds→j+m=nds.length+1→cands nds goal cap m j=((List.range' j m).filter (isLegal nds)).map (tr nds goal cap)
 | 0,_,_,_=>rfl
 | m+1,j,hj,hm=>by
  rw [List.range'_succ]
  simp only [cands]
  have hd:(tri nds goal cap j).toList=([j].filter (isLegal nds)).map (tr nds goal cap):=by
   unfold tri isLegal
   cases hf:fee nds j with
   | none=>simp [hf]
   | some v=>simp [hf,hj,tr,pj]
  have hsplit:((j::List.range' (j+1) m).filter (isLegal nds)).map (tr nds goal cap)=([j].filter (isLegal nds)).map (tr nds goal cap)++((List.range' (j+1) m).filter (isLegal nds)).map (tr nds goal cap):=by
   rw [←List.map_append,←List.filter_append];rfl
  simp only [hsplit,hd]
  congr 1
  by_cases he:endAt nds j=true
  ·rw [if_pos he]
   have hl:j=lim nds:=by
    rcases Nat.lt_or_ge j (lim nds) with q | q
    ·rw [lim_before q] at he;cases he
    ·exact Nat.le_antisymm hj q
   have:(List.range' (j+1) m).filter (isLegal nds)=[]:=by
    refine List.filter_eq_nil_iff.mpr λ x hx=>?_
    have:=List.mem_range'_1.mp hx
    unfold isLegal
    simp;intro _;lia
   rw [this];rfl
  ·rw [if_neg he]
   rcases Nat.lt_or_ge j (lim nds) with q | q
   ·exact cands_eq nds goal cap m (j+1) q ((Nat.succ_add_eq_add_succ j m).trans hm)
   ·have hl:j=lim nds:=Nat.le_antisymm hj q
    rcases Nat.lt_or_ge (lim nds) nds.length with z | z
    ·rw [hl] at he;exact absurd (lim_end z) he
    ·have:m=0:=by have:=lim_le nds;lia
     rw [this];rfl
theorem choice_legal(nds:List Nd)(goal cap:Int):choice nds goal cap=scanL ((legal nds).map (tr nds goal cap)) nds.length AWFUL:=by
 unfold choice legal
 rw [cands_eq nds goal cap (nds.length+1) 0 (Nat.zero_le _) (Nat.zero_add _),List.range_eq_range']
theorem legal_fee{nds:List Nd}{j:Nat}(h:j∈legal nds):∃ v,fee nds j=some v∧j≤nds.length:=by
 have:=List.mem_filter.mp h
 have h1:=List.mem_range.mp this.1
 have h2:=this.2
 unfold isLegal at h2
 simp at h2
 obtain⟨v,hv⟩:=Option.isSome_iff_exists.mp h2.1
 exact⟨v,hv,Nat.le_of_lt_succ h1⟩
theorem pj_le{nds:List Nd}{goal cap:Int}{j:Nat}(h:j∈legal nds):pj nds goal cap j≤AWFUL:=by
 obtain⟨v,hv,_⟩:=legal_fee h
 unfold pj
 rw [hv]
 exact chere_le (fee_lt hv).1
theorem minI_is{ns:List Int}(h:ns≠[]):∃ m,minI (ns.map V.int)=some m∧m∈ns∧∀ x∈ns,m≤x:=
 oC ns.min? (λ e=>absurd (List.min?_eq_none_iff.mp e) h) λ m e=>⟨m,(congrArg (Option.bind · List.min?) (intsV_map ns)).trans e,List.min?_eq_some_iff.mp e⟩
theorem maxI_is{ns:List Int}(h:ns≠[]):∃ m,maxI (ns.map V.int)=some m∧m∈ns∧∀ x∈ns,x≤m:=
 oC ns.max? (λ e=>absurd (List.max?_eq_none_iff.mp e) h) λ m e=>⟨m,(congrArg (Option.bind · List.max?) (intsV_map ns)).trans e,List.max?_eq_some_iff.mp e⟩
end VW.Internal
end
section
open PySem PySem.W PySem.SeqAt
set_option backward.match.sparseCases false
set_option maxRecDepth 100000
namespace VW.Internal
open VS.Internal
theorem fm_if{α:Type}(p:α→Bool)(g:α→V)(l:List α):l.filterMap (λ j=>if p j then some (g j) else none)=(l.filter p).map g:=by
 induction l with
 | nil=>rfl
 | cons a r ih=>
  by_cases h:p a=true
  ·rw [List.filter_cons_of_pos h,List.map_cons,←ih,List.filterMap_cons];simp [h]
  ·rw [List.filter_cons_of_neg h,←ih,List.filterMap_cons];simp [h]
noncomputable def nV(j:Nat):V:=.int (j:Int)
theorem all2_nV:∀ l:List Nat,All2 (λ(v:V) (j:Nat)=>v = .int (j:Int)) (l.map nV) l
 | []=>.nil
 | a::r=>.cons rfl (all2_nV r)
noncomputable def chV:Option (Nat × Int)→V
 | none=>.none
 | some (j,c)=>.tup [.int (j:Int),.int c]
theorem e30:(2:Int)^(30:Int).toNat-1=AWFUL:=by decide
section
variable{K:Frag}(F:KF K){H0 H:Hp}{X:Addr→Hp→Prop}{n:Nat}{hd:Bool}{i:Nat}{vs:List V}{nds:List Nd}
include F
theorem get_nV{l:List Nat}{i k j:Nat}(h:H[i]? = some (.list (l.map nV)))(hl:l.length≤1000)(hk:l[k]? = some j){P:V→Hp→Prop}:R.f (getI (.ref i) (.int (k:Int)) H) P X=P (.int (j:Int)) H:=by
 have hkl:=(List.getElem?_eq_some_iff.mp hk).1
 exact n_getL h (by rw [List.length_map];exact hl) ⟨k,idx_nat F (by rw [List.length_map];exact hkl),by rw [List.getElem?_map,hk];rfl⟩
theorem get_iV{l:List Int}{i k:Nat}{j:Int}(h:H[i]? = some (.list (l.map V.int)))(hl:l.length≤1000)(hk:l[k]? = some j){P:V→Hp→Prop}:R.f (getI (.ref i) (.int (k:Int)) H) P X=P (.int j) H:=by
 have hkl:=(List.getElem?_eq_some_iff.mp hk).1
 exact n_getL h (by rw [List.length_map];exact hl) ⟨k,idx_nat F (by rw [List.length_map];exact hkl),by rw [List.getElem?_map,hk];rfl⟩
theorem f_choice(L:Ls H i vs nds){goal cap:Int}(hg:-1000000≤goal∧goal≤1000000)(hc:-100≤cap∧cap≤1073741823){P:V→Hp→Prop}(hP:∀ H',Pre H H'→P (chV (choice nds goal cap)) H'):R.f (callF K (n+4) hd 807 [.ref i,.int goal,.int cap] [] H) P X:=by
 rw [F.u_807]
 have hl:=L.lenV
 have hlen:=L.len
 have en:=λ{P:V→Hp→Prop}{X:Addr→Hp→Prop}{H':Hp} (p:Pre H H')=>n_len (L.mono p).h (X:=X) L.v1000 (P:=P)
 simp only [↓n_bind,↓n_K,↓n_range,↓en (.refl _),hl]
 refine n_lcR L.n200 (λ j=>if endAt nds j then some (nV j) else none) (λ j hj H' hp=>?_) λ H1 p1=>?_
 ·obtain⟨nd,hnd⟩:∃ nd,nds[j]? = some nd:=⟨nds[j],List.getElem?_eq_getElem hj⟩
  obtain⟨v,hv,hn,hgt⟩:=get_node F (L.mono hp) hnd
  have e:=λ{P:V→Hp→Prop}{X:Addr→Hp→Prop}=>nd_kind F (X:=X) hn (P:=P)
  have ho:=L.ok.get hnd
  cases nd with
  | skip g s=>
   obtain⟨x,rfl,u,h1,y,rfl,h2⟩:=id hn
   have hko:=ho.1.2.2.2.2
   rcases hko with q | q<;>simp [↓n_bind,↓n_K,↓n_pure,↓n_asB,↓n_gt,↓n_eqI,↓n_ifb,n_iT,n_iF,↓hgt,↓e,Nd.kind,↓sk_g F h1 sR,↓gl_ko F h2,q,endAt,hnd,Nd.endless,Pre.refl,nV]
  | box k=>rcases ho.1 with rfl | rfl<;>simp [↓n_bind,↓n_K,↓n_pure,↓n_asB,↓n_eqI,↓n_ifb,n_iF,↓hgt,↓e,Nd.kind,endAt,hnd,Nd.endless,Pre.refl]
  | _=>simp [↓n_bind,↓n_K,↓n_pure,↓n_asB,↓n_eqI,↓n_ifb,n_iF,↓hgt,↓e,Nd.kind,endAt,hnd,Nd.endless,Pre.refl]
 rw [fm_if,n_K,n_bind,n_alloc,n_K]
 have hE:(List.range nds.length).filter (endAt nds)=ends0 nds:=rfl
 rw [hE]
 have hEl:(ends0 nds).length≤nds.length:=by have:=List.length_filter_le (endAt nds) (List.range nds.length);simpa [ends0] using this
 have eE:=at_last (H:=H1) (o:=O.list ((ends0 nds).map nV))
 have p1':=p1.app' [O.list ((ends0 nds).map nV)]
 generalize H1.length=tE at eE
 generalize H1++[O.list ((ends0 nds).map nV)]=H1' at eE p1'
 clear p1 H1
 dsimp only [↓n_bind]
 rw [en p1']
 simp only [↓n_bind,↓n_K,↓n_add,↓n_range,hl,show((nds.length:Int)+1)=((nds.length+1:Nat):Int) from rfl]
 refine n_lcR (Nat.lt_of_le_of_lt (Nat.succ_le_succ hlen) (by decide)) (λ j=>if isLegal nds j then some (nV j) else none) (λ j hj H' hp=>?_) λ H2 p2=>?_
 ·simp only [↓n_bind]
  refine f_fee F ((L.mono p1').mono hp) (Nat.le_of_lt_succ hj) λ H3 p3=>?_
  have hor:∃ o,fee nds j=o:=⟨_,rfl⟩
  cases hf:fee nds j with
  | none=>
   simp [↓n_bind,↓n_K,↓n_pure,↓n_asB,↓n_ifb,n_iF,Bool.not_true,oV,↓n_isnot sN,isN_n,isLegal,hf]
   exact p3
  | some w=>
   have p13:=p1'.trans (hp.trans p3)
   have eE3:=(hp.trans p3) _ _ eE
   rw [show oV (some w)=V.int w from rfl]
   simp only [↓n_bind,↓n_K,↓n_alloc,↓n_ifb,n_iT,Bool.not_false,↓n_isnot sI,isN_i,↓en p13,hl]
   have hE1:(ends0 nds).length+1≤1000:=Nat.le_trans (Nat.succ_le_succ (Nat.le_trans hEl hlen)) (by decide)
   rw [n_addL (Pre.app _ _ _ _ eE3) at_last (by rw [List.length_map];exact hE1)]
   simp only [↓n_bind,↓n_K]
   have hh:((ends0 nds).map nV++[V.int (nds.length:Int)])[0]? = some (V.int (lim nds:Int)):=by
    unfold lim
    cases ends0 nds with
    | nil=>rfl
    | cons a r=>rfl
   rw [n_getL at_last (by rw [List.length_append,List.length_map];exact hE1) ⟨0,idx_0 (by simp),hh⟩]
   have pf:=((p3.app' [O.list [V.int (nds.length:Int)]]).app' [O.list ((ends0 nds).map nV++[V.int (nds.length:Int)])])
   by_cases hjl:j≤lim nds
   ·have hj':(j:Int)≤(lim nds:Int):=Int.ofNat_le.mpr hjl
    simp [↓n_bind,↓n_K,↓n_pure,↓n_asB,↓n_le,↓n_ifb,n_iT,hj',isLegal,hf,hjl,nV]
    simpa using pf
   ·have hj':¬(j:Int)≤(lim nds:Int):=λ z=>hjl (Int.ofNat_le.mp z)
    simp [↓n_bind,↓n_K,↓n_pure,↓n_asB,↓n_le,↓n_ifb,n_iF,hj',isLegal,hf,hjl,nV]
    simpa using pf
 rw [fm_if,n_K,n_bind,n_alloc,n_K]
 have hG:(List.range (nds.length+1)).filter (isLegal nds)=legal nds:=rfl
 rw [hG]
 have hGl:(legal nds).length≤nds.length+1:=by have:=List.length_filter_le (isLegal nds) (List.range (nds.length+1));simpa [legal] using this
 have hG2:(legal nds).length≤101:=Nat.le_trans hGl (Nat.succ_le_succ hlen)
 have hG1:(legal nds).length≤1000:=Nat.le_trans hG2 (by decide)
 have p2':=p1'.trans (p2.app' [O.list ((legal nds).map nV)])
 have eG:=at_last (H:=H2) (o:=O.list ((legal nds).map nV))
 generalize H2.length=tG at eG
 generalize H2++[O.list ((legal nds).map nV)]=H2' at eG p2'
 clear p2 H2 eE p1' H1'
 revert tG H2'
 refine keep ?_
 unhygienic intros
 dsimp only [↓n_bind]
 refine n_lcL eG (all2_nV (legal nds)) (Nat.lt_of_le_of_lt hG2 (by decide)) (λ j=>some (.int (pj nds goal cap j))) (λ v j hj hv H' hp=>?_) λ H3 p3=>?_
 ·subst hv
  obtain⟨w,hw,hjn⟩:=legal_fee hj
  have L':=(L.mono p2').mono hp
  dsimp only [↓n_bind]
  rw [n_sliceL L'.h L'.v1000 pt_none pt_int,cut_take (Nat.le_trans hjn (Nat.le_of_eq hl.symm))]
  have pa:=Pre.app H' [O.list (vs.take j)]
  have LA:Ls (H'++[O.list (vs.take j)]) H'.length (vs.take j) (nds.take j):=⟨at_last,(L'.a.mono λ _ _ q=>q.mono pa).take j,L.ok.take j,Nat.le_trans (List.length_take_le' j nds) hlen⟩
  dsimp only [↓n_K,↓n_bind]
  refine f_fee F (L'.mono pa) hjn λ H4 p4=>?_
  dsimp only [↓n_K,↓n_bind]
  rw [hw,show oV (some w)=V.int w from rfl]
  refine f_price F (LA.mono p4) hg hc λ H5 p5=>?_
  rw [price_take hjn]
  dsimp only [↓n_K,↓n_pure]
  exact⟨by unfold pj;rw [hw];rfl,pa.trans (p4.trans p5)⟩
 have hPr:(legal nds).filterMap (λ j=>some (V.int (pj nds goal cap j)))=((legal nds).map (pj nds goal cap)).map V.int:=by simp [List.map_map,Function.comp_def]
 rw [hPr,n_K,n_bind,n_alloc,n_K]
 have p3':=p2'.trans (p3.app' [O.list (((legal nds).map (pj nds goal cap)).map V.int)])
 have eG3:=Pre.app _ [O.list (((legal nds).map (pj nds goal cap)).map V.int)] _ _ (p3 _ _ eG)
 have eP:=at_last (H:=H3) (o:=O.list (((legal nds).map (pj nds goal cap)).map V.int))
 generalize H3.length=tP at eP
 generalize H3++[O.list (((legal nds).map (pj nds goal cap)).map V.int)]=H3' at eG3 p3' eP
 clear p3 H3 eG p2' H2'
 let T:=(legal nds).map (tr nds goal cap)
 let ee:Nat→Bool:=λ k=>(T[k]?.map (·.2.2))==some true
 dsimp only [↓n_bind]
 rw [n_len eG3 (by rw [List.length_map];exact hG1)]
 simp only [↓n_bind,↓n_K,↓n_range,List.length_map]
 refine n_lcR (Nat.lt_of_le_of_lt hG2 (by decide)) (λ k=>if ee k then some (nV k) else none) (λ k hk H' hp=>?_) λ H4 p4=>?_
 ·obtain⟨j,hj⟩:∃ j,(legal nds)[k]? = some j:=⟨_,List.getElem?_eq_getElem hk⟩
  have hjm:=List.mem_of_getElem? hj
  obtain⟨w,hw,hjn⟩:=legal_fee hjm
  have hT:ee k=(decide (pj nds goal cap j=AWFUL)||decide (w≤-10000)):=by
   simp only [ee,T,List.getElem?_map,hj,Option.map_some,tr,hw,Option.getD_some]
   cases (decide (pj nds goal cap j=AWFUL)||decide (w≤-10000))<;>rfl
  have gP:=λ{P:V→Hp→Prop}{X:Addr→Hp→Prop}=>get_iV F (H:=H') (X:=X) (hp _ _ eP) (by rw [List.length_map];exact hG1) (k:=k) (j:=pj nds goal cap j) (by rw [List.getElem?_map,hj];rfl) (P:=P)
  have gG:=λ{P:V→Hp→Prop}{X:Addr→Hp→Prop}=>get_nV F (H:=H') (X:=X) (hp _ _ eG3) hG1 hj (P:=P)
  dsimp only [↓n_bind]
  rw [gP]
  dsimp only [↓n_K,↓n_bind]
  rw [n_pow (by decide)]
  dsimp only [↓n_K,↓n_bind,↓n_sub]
  rw [e30]
  dsimp only [↓n_K,↓n_bind,↓n_eqI,↓n_ifb]
  rw [n_iD]
  by_cases q1:pj nds goal cap j=AWFUL
  ·refine⟨λ _=>?_,λ z=>absurd q1 z⟩
   simp [↓n_bind,↓n_K,↓n_pure,↓n_asB,↓n_ifb,n_iT,hT,q1,Pre.refl,nV]
  ·refine⟨λ z=>absurd z q1,λ _=>?_⟩
   dsimp only [↓n_bind]
   rw [gG]
   dsimp only [↓n_K,↓n_bind]
   refine f_fee F ((L.mono p3').mono hp) hjn λ H5 p5=>?_
   rw [hw,show oV (some w)=V.int w from rfl]
   by_cases q2:w≤-10000<;>simp [↓n_bind,↓n_K,↓n_pure,↓n_asB,↓n_le,↓n_ifb,n_iT,n_iF,hT,q1,q2,p5,nV]
 rw [fm_if,n_K,n_bind,n_alloc,n_K]
 have p4':=p3'.trans (p4.app' [O.list (((List.range (legal nds).length).filter ee).map nV)])
 have eG4:=Pre.app _ [O.list (((List.range (legal nds).length).filter ee).map nV)] _ _ (p4 _ _ eG3)
 have eP4:=Pre.app _ [O.list (((List.range (legal nds).length).filter ee).map nV)] _ _ (p4 _ _ eP)
 have eD:=at_last (H:=H4) (o:=O.list (((List.range (legal nds).length).filter ee).map nV))
 generalize H4.length=tD at eD
 generalize H4++[O.list (((List.range (legal nds).length).filter ee).map nV)]=H4' at eG4 p4' eP4 eD
 clear p4 H4 eG3 p3' eP H3'
 revert tD H4'
 refine keep ?_
 unhygienic intros
 have hTl:T.length=(legal nds).length:=List.length_map ..
 have hDl:((List.range (legal nds).length).filter ee).length≤(legal nds).length:=by have:=List.length_filter_le ee (List.range (legal nds).length);simpa using this
 dsimp only [↓n_bind,↓n_alloc,↓n_K]
 rw [n_eqL (Pre.app _ _ _ _ eD) at_last eq_nil]
 dsimp only [↓n_K,↓n_ifb]
 have p5:=p4'.app' [O.list []]
 have eG5:=Pre.app _ [O.list []] _ _ eG4
 have eP5:=Pre.app _ [O.list []] _ _ eP4
 have eD5:=Pre.app _ [O.list []] _ _ eD
 generalize H4'++[O.list []]=H5 at p5 eG5 eP5 eD5
 clear eG4 eP4 eD p4' H4'
 have hch:=choice_legal nds goal cap
 cases hD:(List.range (legal nds).length).filter ee with
 | nil=>
  rw [List.map_nil,List.isEmpty_nil]
  dsimp only [↓n_iT]
  have:choice nds goal cap=none:=by
   rw [hch]
   refine scan_noend T _ _ λ p hp=>?_
   obtain⟨k,hk⟩:=List.getElem?_of_mem hp
   have hkl:=(List.getElem?_eq_some_iff.mp hk).1
   have:=List.filter_eq_nil_iff.mp hD k (List.mem_range.mpr (Nat.lt_of_lt_of_eq hkl hTl))
   simp only [ee,hk,Option.map_some] at this
   cases hq:p.2.2 with
   | false=>rfl
   | true=>rw [hq] at this;simp at this
  have hq:=hP H5 p5
  rw [this] at hq
  exact hq
 | cons e D=>
  rw [List.map_cons,List.isEmpty_cons]
  dsimp only [↓n_iF]
  rw [hD] at eD5 hDl
  have heD:e∈(List.range (legal nds).length).filter ee:=by rw [hD];exact .head _
  have hel:e<(legal nds).length:=List.mem_range.mp (List.mem_filter.mp heD).1
  have hee:ee e=true:=(List.mem_filter.mp heD).2
  have hbe:∀ k,k<e→ee k=false:=λ k hk=>by
   have:=(headD_filter_range ee (legal nds).length 0 0).1 k
   rw [←List.range_eq_range',hD] at this
   exact this (by simpa using hk) (Nat.zero_le _) (Nat.lt_of_lt_of_eq (Nat.lt_trans hk hel) (Nat.zero_add _).symm)
  dsimp only [↓n_bind]
  rw [n_getL eD5 (by rw [List.length_map];exact Nat.le_trans hDl hG1) (v:=.int (e:Int)) ⟨0,idx_0 (by simp),rfl⟩]
  dsimp only [↓n_K,↓n_bind,↓n_add]
  rw [n_sliceL eP5 (by rw [List.length_map,List.length_map];exact hG1) pt_none pt_int,show((e:Int)+1)=((e+1:Nat):Int) from rfl,cut_take (by rw [List.length_map,List.length_map];exact hel)]
  rw [←List.map_take]
  let Ps:=((legal nds).map (pj nds goal cap)).take (e+1)
  have hPsl:Ps.length=e+1:=(List.length_take ..).trans ((congrArg (min (e+1)) (List.length_map ..)).trans (Nat.min_eq_left hel))
  have hP1:e+1≤1000:=Nat.le_trans hel hG1
  have hPsk:∀ k,k≤e→Ps[k]? = some (cT T k):=λ k hk=>by
   obtain⟨j,hj⟩:∃ j,(legal nds)[k]? = some j:=⟨_,List.getElem?_eq_getElem (Nat.lt_of_le_of_lt hk hel)⟩
   simp only [Ps]
   rw [List.getElem?_take_of_lt (Nat.lt_succ_of_le hk),List.getElem?_map,hj]
   simp only [cT,T,List.getElem?_map,hj];rfl
  have eS:=at_last (H:=H5) (o:=O.list (Ps.map V.int))
  have p6:=p5.app' [O.list (Ps.map V.int)]
  have eG6:=Pre.app _ [O.list (Ps.map V.int)] _ _ eG5
  dsimp only [↓n_K]
  have hfold:(((legal nds).map (pj nds goal cap)).take (e+1))=Ps:=rfl
  rw [hfold]
  generalize H5.length=tS at eS
  generalize H5++[O.list (Ps.map V.int)]=H6 at eS p6 eG6
  clear eG5 eP5 eD5 p5 H5
  revert tS H6
  refine keep ?_
  unhygienic intros
  obtain⟨mn,hmn,hmin,hmle⟩:=minI_is (ns:=Ps) (λ z=>by rw [z] at hPsl;simp at hPsl)
  dsimp only [↓n_bind]
  rw [n_len eS (by rw [List.length_map,hPsl];exact hP1)]
  simp only [↓n_bind,↓n_K,↓n_range,List.length_map,hPsl]
  refine n_lcR (Nat.lt_of_le_of_lt (Nat.le_trans hel hG2) (by decide)) (λ k=>if decide (Ps[k]? = some mn) then some (nV k) else none) (λ k hk H' hp=>?_) λ H7 p7=>?_
  ·have hk':=hPsk k (Nat.le_of_lt_succ hk)
   dsimp only [↓n_bind]
   rw [get_iV F (hp _ _ eS) (Nat.le_trans (Nat.le_of_eq hPsl) hP1) hk']
   dsimp only [↓n_K,↓n_bind]
   rw [n_minL (hp _ _ eS) (by rw [List.length_map,hPsl];exact hP1) hmn]
   by_cases q:cT T k=mn<;>simp [↓n_bind,↓n_K,↓n_pure,↓n_eqI,↓n_ifb,n_iT,n_iF,hk',q,Pre.refl,nV]
  rw [fm_if]
  let Bs:=(List.range (e+1)).filter λ k=>decide (Ps[k]? = some mn)
  have hBs:(List.range (e+1)).filter (λ k=>decide (Ps[k]? = some mn))=Bs:=rfl
  rw [hBs]
  have hBl:Bs.length≤e+1:=by have:=List.length_filter_le (λ k=>decide (Ps[k]? = some mn)) (List.range (e+1));simpa [Bs] using this
  have hBne:Bs.map (λ(j:Nat)=>(j:Int))≠[]:=λ z=>by
   obtain⟨k,hk⟩:=List.getElem?_of_mem hmin
   have hkl:=(List.getElem?_eq_some_iff.mp hk).1
   have:k∈Bs:=List.mem_filter.mpr ⟨List.mem_range.mpr (Nat.lt_of_lt_of_eq hkl hPsl),by simp [hk]⟩
   have:(k:Int)∈Bs.map (λ(j:Nat)=>(j:Int)):=List.mem_map_of_mem this
   rw [z] at this;cases this
  obtain⟨mx,hmx,hmxin,hmxle⟩:=maxI_is hBne
  obtain⟨b,hb,rfl⟩:=List.mem_map.mp hmxin
  have hbB:=List.mem_filter.mp hb
  have hbe':b≤e:=Nat.le_of_lt_succ (List.mem_range.mp hbB.1)
  have hbm:cT T b=mn:=by
   have h1:=hPsk b hbe'
   have h2:=of_decide_eq_true hbB.2
   rw [h1] at h2;exact Option.some.inj h2
  have hLM:LastMin (cT T) e b:=by
   refine⟨hbe',λ k hk=>?_,λ k hk hbk=>?_⟩
   ·rw [hbm];exact hmle _ (List.mem_of_getElem? (hPsk k hk))
   ·have h1:=hmle _ (List.mem_of_getElem? (hPsk k hk))
    rcases Int.lt_or_eq_of_le h1 with z | z
    ·rw [hbm];exact z
    ·exfalso
     have:k∈Bs:=List.mem_filter.mpr ⟨List.mem_range.mpr (Nat.lt_succ_of_le hk),by simp [hPsk k hk,z]⟩
     have:=hmxle _ (List.mem_map_of_mem (f:=λ(j:Nat)=>(j:Int)) this)
     exact absurd (Int.ofNat_le.mp this) (Nat.not_le.mpr hbk)
  have hmapeq:Bs.map nV=(Bs.map (λ(j:Nat)=>(j:Int))).map V.int:=by simp [nV,List.map_map,Function.comp_def]
  rw [hmapeq]
  dsimp only [↓n_K,↓n_bind,↓n_alloc]
  rw [n_maxL at_last (by rw [List.length_map,List.length_map];exact Nat.le_trans hBl hP1) hmx]
  obtain⟨jb,hjb⟩:∃ j,(legal nds)[b]? = some j:=⟨_,List.getElem?_eq_getElem (Nat.lt_of_le_of_lt hbe' hel)⟩
  have p8:=(p6.trans p7).app' [O.list ((Bs.map (λ(j:Nat)=>(j:Int))).map V.int)]
  have eG8:=Pre.app _ [O.list ((Bs.map (λ(j:Nat)=>(j:Int))).map V.int)] _ _ (p7 _ _ eG6)
  have eS8:=Pre.app _ [O.list ((Bs.map (λ(j:Nat)=>(j:Int))).map V.int)] _ _ (p7 _ _ eS)
  dsimp only [↓n_K,↓n_bind]
  rw [get_nV F eG8 hG1 hjb]
  dsimp only [↓n_K,↓n_bind]
  rw [get_iV F eS8 (Nat.le_trans (Nat.le_of_eq hPsl) hP1) (hPsk b hbe')]
  have hTb:T[b]? = some (tr nds goal cap jb):=by simp only [T,List.getElem?_map,hjb];rfl
  have hres:=scan_char T nds.length AWFUL e b (tr nds goal cap jb) (by simpa [ee] using hee) (λ k hk=>by
   have h1:=hbe k hk
   obtain⟨j,hj⟩:∃ j,(legal nds)[k]? = some j:=⟨_,List.getElem?_eq_getElem (Nat.lt_trans hk hel)⟩
   simp only [ee,T,List.getElem?_map,hj,Option.map_some] at h1 ⊢
   cases hq:(tr nds goal cap j).2.2 with
   | false=>rfl
   | true=>rw [hq] at h1;simp at h1) hLM hTb
  have hle:(tr nds goal cap jb).2.1≤AWFUL:=pj_le (List.mem_of_getElem? hjb)
  rw [if_pos hle,←hch] at hres
  have hq:=hP _ p8
  rw [hres] at hq
  have hcb:cT T b=(tr nds goal cap jb).2.1:=by simp [cT,hTb]
  rw [hcb]
  exact hq
end
end VW.Internal
end
section
open PySem PySem.W PySem.SeqAt
set_option backward.match.sparseCases false
set_option maxRecDepth 100000
namespace VW.Internal
open VS.Internal
noncomputable def sumsOf(nds:List Nd)(gap:Int):Int→Int:=if 0<gap then ss nds else ks nds
noncomputable def told(nds:List Nd)(gap:Int):Int × Int:=
 if nds.isEmpty=true∨gap=0∨¬(sumsOf nds gap 1=0∧sumsOf nds gap 2=0∧sumsOf nds gap 3=0) then(0,0)
 else if 0<gap then(1,vbad gap (sumsOf nds gap 0)) else if sumsOf nds gap 0 < -gap then(3,-gap-sumsOf nds gap 0) else(2,vbad (-gap) (sumsOf nds gap 0))
theorem told_rep(nds:List Nd)(goal cap:Int):told nds (goal-nat nds cap)=repA nds goal cap:=by
 unfold told repA
 generalize goal-nat nds cap=e
 by_cases h:nds.isEmpty=true
 ·rw [if_pos (.inl h),if_pos h]
 rw [if_neg h]
 unfold rep
 by_cases h0:e=0
 ·rw [if_pos (.inr (.inl h0)),if_pos h0]
 rw [if_neg h0]
 have hs:(if 0<e then ss nds else ks nds)=sumsOf nds e:=rfl
 unfold ttot tord
 rw [hs]
 generalize sumsOf nds e=f
 by_cases h1:f 1=0∧f 2=0∧f 3=0
 ·have ht:top f=0:=by unfold top;rw [if_neg (by rw [h1.2.2];simp),if_neg (by rw [h1.2.1];simp),if_neg (by rw [h1.1];simp)]
  rw [ht,if_pos rfl,if_neg (by simp [h,h0,h1])]
  by_cases h2:0<e
  ·rw [if_pos h2,if_neg (λ z=>absurd z.1 (Int.not_lt.mpr (Int.le_of_lt h2))),if_pos h2,Int.natAbs_of_nonneg (Int.le_of_lt h2)]
  ·rw [if_neg h2]
   by_cases h3:f 0 < -e
   ·rw [if_pos h3,if_pos ⟨Int.lt_iff_le_and_ne.mpr ⟨Int.not_lt.mp h2,h0⟩,h3⟩]
   ·rw [if_neg h3,if_neg (λ z=>h3 z.2),if_neg h2,Int.ofNat_natAbs_of_nonpos (Int.not_lt.mp h2)]
 ·have ht:top f≠0:=by
   unfold top
   intro q
   apply h1
   split at q
   ·omega
   ·split at q
    ·lia
    ·split at q
     ·lia
     ·rename_i a b c
      exact⟨by simpa using c,by simpa using b,by simpa using a⟩
  rw [if_neg ht,if_pos (.inr (.inr h1))]
noncomputable def stdAt(nds:List Nd)(j:Nat):Bool:=(nds[j]?.map Nd.std)==some true
noncomputable def fstd(nds:List Nd):Nat:=((List.range nds.length).filter (stdAt nds)).headD nds.length
theorem fstd_is(nds:List Nd):fstd nds≤nds.length∧(∀ x,x<fstd nds→stdAt nds x=false)∧(fstd nds<nds.length→stdAt nds (fstd nds)=true):=by
 have:=headD_filter_range (stdAt nds) nds.length 0 nds.length
 have e:((List.range' 0 nds.length).filter (stdAt nds)).headD nds.length=fstd nds:=by unfold fstd;rw [List.range_eq_range']
 rw [e] at this
 have hle:fstd nds≤nds.length:=by
  unfold fstd
  cases h:(List.range nds.length).filter (stdAt nds) with
  | nil=>simp
  | cons a r=>
   have:a∈(List.range nds.length).filter (stdAt nds):=by rw [h];exact .head _
   have:=List.mem_range.mp (List.mem_filter.mp this).1
   simp;exact Nat.le_of_lt (by assumption)
 refine⟨hle,λ x hx=>this.1 x hx (Nat.zero_le _) (Nat.lt_of_lt_of_eq (Nat.lt_of_lt_of_le hx hle) (Nat.zero_add _).symm),λ h=>?_⟩
 rcases this.2 with ⟨q,_⟩ | q
 ·exact absurd q (Nat.ne_of_lt h)
 ·exact q
theorem prune_split(t:Gl):∀(nds:List Nd) (f:Nat),f≤nds.length→(∀ x,x<f→stdAt nds x=false)→(f<nds.length→stdAt nds f=true)→
  prune t nds=(nds.take f).filter Nd.stay++(match nds.drop f with | []=>[] | nd::r=>.skip (room t (nd.hgt.getD 0)) 108::nd::r)
 | [],f,h,_,_=>by simp [prune]
 | nd::r,f,h,h1,h2=>by
  simp only [prune]
  cases f with
  | zero=>
   have:=h2 (by simp)
   have hs:nd.std=true:=by simpa [stdAt] using this
   simp [hs]
  | succ f=>
   have:=h1 0 (Nat.succ_pos f)
   have hs:nd.std=false:=by simpa [stdAt] using this
   have ih:=prune_split t r f (by simpa using h) (λ x hx=>by have:=h1 (x+1) (Nat.succ_lt_succ hx);simpa [stdAt] using this) (λ hf=>by have:=h2 (by simpa using hf);simpa [stdAt] using this)
   simp only [hs,Bool.false_eq_true,if_false,List.take_succ_cons,List.drop_succ_cons]
   cases hy:nd.stay with
   | true=>rw [List.filter_cons_of_pos hy,ih];rfl
   | false=>rw [List.filter_cons_of_neg (by simp [hy]),ih];rfl
theorem cut_one{xs:List V}(h:1≤xs.length):cutL (some 1) none xs=xs.drop 1:=by
 have:=cut_drop (xs:=xs) (j:=1) h
 exact this
section
variable{K:Frag}(F:KF K){H0 H:Hp}{X:Addr→Hp→Prop}{n:Nat}{hd:Bool}{i:Nat}{vs:List V}{nds:List Nd}
include F
theorem f_told(L:Ls H i vs nds){gap:Int}(hg:-7000000≤gap∧gap≤7000000){P:V→Hp→Prop}(hP:∀ H',Pre H H'→P (pr (told nds gap)) H'):R.f (callF K (n+2) hd 812 [.ref i,.int gap] [] H) P X:=by
 rw [F.u_812]
 have hlen:=L.len
 have hss:=λ o=>ss_le L.ok o
 have hks:=λ o=>ks_le L.ok o
 dsimp only [↓n_bind,↓n_range,↓n_K]
 refine n_lcR (by decide) (λ o=>some (.int (sumsOf nds gap (o:Int)))) (λ o ho H' hp=>?_) λ H1 p1=>?_
 ·simp only [↓n_bind,↓n_K,↓n_gt]
  refine f_sum F (L.mono hp) λ H2 p2=>?_
  dsimp only [↓n_K,↓n_pure]
  refine⟨?_,p2⟩
  unfold sumsOf
  by_cases q:0<gap<;>simp [q]
 have hf:(List.range 4).filterMap (λ(o:Nat)=>some (V.int (sumsOf nds gap (o:Int))))=[.int (sumsOf nds gap 0),.int (sumsOf nds gap 1),.int (sumsOf nds gap 2),.int (sumsOf nds gap 3)]:=rfl
 have hs0:0≤sumsOf nds gap 0∧sumsOf nds gap 0≤100*nds.length:=by unfold sumsOf;split<;>first | exact hss 0 | exact hks 0
 rw [hf,n_K,n_bind,n_alloc,n_K]
 unfold told at hP
 generalize sumsOf nds gap=f at hP hs0
 have e1:=at_last (H:=H1) (o:=O.list [.int (f 0),.int (f 1),.int (f 2),.int (f 3)])
 have p1':=p1.app' [O.list [.int (f 0),.int (f 1),.int (f 2),.int (f 3)]]
 generalize H1.length=j at e1
 generalize H1++[O.list [.int (f 0),.int (f 1),.int (f 2),.int (f 3)]]=H2 at e1 p1'
 have g0:=λ{P:V→Hp→Prop}{X:Addr→Hp→Prop}{H':Hp} (p:Pre H2 H')=>n_getL (p _ _ e1) (X:=X) (k:=0) (v:=.int (f 0)) (by simp) ⟨0,idx_0 (by simp),rfl⟩ (P:=P)
 have fin0:∀ H3,Pre H2 H3→(nds.isEmpty=true∨gap=0∨¬(f 1=0∧f 2=0∧f 3=0))→P (.tup [.int 0,.int 0]) H3:=λ H3 p3 hc=>by
  have:=hP H3 (p1'.trans p3)
  rw [if_pos hc] at this
  exact this
 have fin1:∀ H3,Pre H2 H3→¬(nds.isEmpty=true∨gap=0∨¬(f 1=0∧f 2=0∧f 3=0))→R.f (c_812_9 (callF K (n+1) hd) (.int gap) (.ref j) H3) (Kf P) X:=λ H3 p3 hc=>by
  have:=hP H3 (p1'.trans p3)
  rw [if_neg hc] at this
  dsimp only [↓n_bind,↓n_gt,↓n_K,↓n_ifb]
  simp only [n_iD]
  refine⟨λ q=>?_,λ q=>?_⟩
  ·have q':0<gap:=q
   rw [if_pos q'] at this
   dsimp only [↓n_bind]
   rw [g0 p3]
   dsimp only [↓n_K,↓n_bind]
   rw [f_lbad F ⟨Int.le_of_lt q',Int.le_trans hg.2 (by decide)⟩ (s63 hs0 L.len).2]
   exact this
  ·have q':¬ 0<gap:=q
   rw [if_neg q'] at this
   dsimp only [↓n_bind]
   rw [g0 p3]
   dsimp only [↓n_K,↓n_bind,↓n_neg,↓n_lt,↓n_ifb]
   simp only [n_iD]
   refine⟨λ z=>?_,λ z=>?_⟩
   ·have z':f 0 < -gap:=z
    rw [if_pos z'] at this
    dsimp only [↓n_bind,↓n_neg,↓n_K]
    rw [g0 p3]
    dsimp only [↓n_K,↓n_bind,↓n_sub]
    exact this
   ·have z':¬ f 0 < -gap:=z
    rw [if_neg z'] at this
    dsimp only [↓n_bind,↓n_neg,↓n_K]
    rw [g0 p3]
    dsimp only [↓n_K,↓n_bind]
    rw [f_lbad F ⟨Int.neg_nonneg_of_nonpos (Int.not_lt.mp q'),Int.le_trans (Int.neg_le_neg hg.1) (by decide)⟩ (s63 hs0 L.len).2]
    exact this
 dsimp only [↓n_bind,↓n_alloc,↓n_K]
 rw [n_eqL (Pre.app _ _ _ _ (p1' _ _ L.h)) at_last eq_nil,L.a.nil_iff]
 dsimp only [↓n_K,↓n_bind,↓n_ifb]
 simp only [n_iU]
 have p3:=Pre.app H2 [O.list []]
 refine⟨λ q=>?_,λ q=>?_⟩
 ·dsimp only [↓n_pure,↓n_K,↓n_bind,↓n_asB,↓n_ifb,↓n_iT]
  exact fin0 _ p3 (.inl q)
 dsimp only [↓n_bind,↓n_eqI,↓n_K,↓n_ifb]
 simp only [n_iD]
 refine⟨λ q0=>?_,λ q0=>?_⟩
 ·dsimp only [↓n_pure,↓n_K,↓n_bind,↓n_asB,↓n_ifb,↓n_iT]
  exact fin0 _ p3 (.inr (.inl q0))
 have q0':gap≠0:=q0
 dsimp only [↓n_bind]
 rw [n_sliceL (p3 _ _ e1) (by simp) pt_int pt_none,cut_one (by simp),show List.drop 1 [V.int (f 0),.int (f 1),.int (f 2),.int (f 3)]=[.int (f 1),.int (f 2),.int (f 3)] from rfl]
 dsimp only [↓n_K,↓n_bind,↓n_alloc]
 rw [n_ne,n_eqL (Pre.app _ _ _ _ at_last) at_last (b:=decide ([f 1,f 2,f 3]=[0,0,0])) (by rw [if_pos (show [V.int (f 1),V.int (f 2),V.int (f 3)].length=[V.int 0,V.int 0,V.int 0].length from rfl)];exact pq_ints (ms:=[f 1,f 2,f 3]) (ns:=[0,0,0]))]
 dsimp only [↓n_K,↓n_pure,↓n_bind,↓n_asB,↓n_ifb]
 simp only [n_iN]
 have p4:=(p3.app' [O.list [.int (f 1),.int (f 2),.int (f 3)]]).app' [O.list [V.int 0,V.int 0,V.int 0]]
 refine⟨λ z=>?_,λ z=>?_⟩
 ·refine fin0 _ p4 (.inr (.inr λ w=>?_))
  simp [w] at z
 ·refine fin1 _ p4 λ w=>?_
  rcases w with w | w | w
  ·rw [q] at w;cases w
  ·exact q0' w
  ·exact w (by simpa using z)
end
end VW.Internal
end
section
open PySem PySem.W PySem.SeqAt
set_option backward.match.sparseCases false
set_option maxRecDepth 100000
namespace VW.Internal
open VS.Internal
theorem std_kind{nd:Nd}(h:nd.ok):nd.std=(decide (2≤nd.kind)&&decide (nd.kind≤4)):=by
 cases nd with
 | box=>rcases h.1 with rfl | rfl<;>rfl
 | _=>rfl
theorem stay_in{nd:Nd}:([9,10,13]:List Int).any (· == nd.kind)=nd.stay:=by
 unfold Nd.stay
 simp only [List.any_cons,List.any_nil,Bool.or_false]
 simp only [Bool.beq_comm (a:=(9:Int)),Bool.beq_comm (a:=(10:Int)),Bool.beq_comm (a:=(13:Int))]
section
variable{K:Frag}(F:KF K){H0 H:Hp}{X:Addr→Hp→Prop}{n:Nat}{hd:Bool}{i:Nat}{vs:List V}{nds:List Nd}
include F
theorem f_desc1{v:V}{nd:Nd}(ho:nd.ok)(h:NdAt H v nd){P:V→Hp→Prop}(hP:∀ H',Pre H H'→P (dsc nd) H'):R.f (callF K (n+3) hd 526 [v] [] H) P X:=by
 rw [F.u_526_1,←F.u_526]
 exact f_desc F ho h (by decide) hP
theorem f_dlist1(L:Ls H i vs nds){P:V→Hp→Prop}(hP:∀ H',Pre H H'→P (.tup (nds.map dsc)) H'):R.f (callF K (n+4) hd 532 [.ref i] [] H) P X:=by
 rw [F.u_532_1,←F.u_532]
 exact f_dlist F L.h L.a L.ok (by first | exact L.n200 | exact Nat.le_of_lt L.n200 | exact L.len | exact Nat.le_trans L.len (by decide)) (by decide) hP
theorem f_rest(L:Ls H i vs nds){tp:Nat}{t:Gl}(ht:H[tp]? = some (glO t)){P:V→Hp→Prop}(hP:∀ H',Pre H H'→P (.tup ((prune t nds).map dsc)) H'):R.f (callF K (n+5) hd 817 [.ref i,.ref tp] [] H) P X:=by
 rw [F.u_817]
 have hl:=L.lenV
 have hlen:=L.len
 obtain⟨hfl,hfb,hfe⟩:=fstd_is nds
 have hsp:=prune_split t nds (fstd nds) hfl hfb hfe
 have en:=λ{P:V→Hp→Prop}{X:Addr→Hp→Prop}{H':Hp} (p:Pre H H')=>n_len (L.mono p).h (X:=X) L.v1000 (P:=P)
 simp only [↓n_bind,↓n_K,↓n_range,↓en (.refl _),hl]
 refine n_lcR L.n200 (λ j=>if stdAt nds j then some (nV j) else none) (λ j hj H' hp=>?_) λ H1 p1=>?_
 ·obtain⟨nd,hnd⟩:∃ nd,nds[j]? = some nd:=⟨nds[j],List.getElem?_eq_getElem hj⟩
  obtain⟨v,hv,hn,hgt⟩:=get_node F (L.mono hp) hnd
  have e:=λ{P:V→Hp→Prop}{X:Addr→Hp→Prop}=>nd_kind F (X:=X) hn (P:=P)
  have hk:=std_kind (L.ok.get hnd)
  have hst:stdAt nds j=nd.std:=by unfold stdAt;simp only [hnd,Option.map_some];cases nd.std<;>rfl
  rw [hst,hk]
  by_cases q1:2≤nd.kind<;>by_cases q2:nd.kind≤4<;>simp [↓n_bind,↓n_K,↓n_pure,↓n_asB,↓n_le,↓n_ifb,n_iT,n_iF,↓hgt,↓e,q1,q2,Pre.refl,nV]
 rw [fm_if,n_K,n_bind,n_alloc,n_K]
 have hSl:((List.range nds.length).filter (stdAt nds)).length≤nds.length:=by have:=List.length_filter_le (stdAt nds) (List.range nds.length);simpa using this
 have hS0:(((List.range nds.length).filter (stdAt nds)).map nV++[V.int (nds.length:Int)])[0]? = some (V.int (fstd nds:Int)):=by
  unfold fstd
  cases (List.range nds.length).filter (stdAt nds) with
  | nil=>rfl
  | cons a r=>rfl
 have hSe:((List.range nds.length).filter (stdAt nds)).isEmpty=decide (fstd nds=nds.length):=by
  cases hq:(List.range nds.length).filter (stdAt nds) with
  | nil=>simp [fstd,hq]
  | cons a r=>
   have:a∈(List.range nds.length).filter (stdAt nds):=by rw [hq];exact .head _
   have:=List.mem_range.mp (List.mem_filter.mp this).1
   simp [fstd,hq];exact Nat.ne_of_lt this
 generalize (List.range nds.length).filter (stdAt nds)=S at hSl hS0 hSe
 have eS:=at_last (H:=H1) (o:=O.list (S.map nV))
 have p1':=p1.app' [O.list (S.map nV)]
 generalize H1.length=tS at eS
 generalize H1++[O.list (S.map nV)]=H1' at eS p1'
 clear p1 H1
 have hS1:S.length+1≤1000:=Nat.le_trans (Nat.succ_le_succ (Nat.le_trans hSl hlen)) (by decide)
 rw [n_bind,en p1',n_K,n_bind,n_alloc,hl,n_K,n_bind,n_addL (Pre.app _ _ _ _ eS) at_last (by rw [List.length_map];exact hS1),n_K,n_bind,n_getL at_last (by rw [List.length_append,List.length_map];exact hS1) ⟨0,idx_0 (by simp),hS0⟩]
 have p2:=(p1'.app' [O.list [V.int (nds.length:Int)]]).app' [O.list (S.map nV++[V.int (nds.length:Int)])]
 have eS2:(H1'++[O.list [V.int (nds.length:Int)]]++[O.list (S.map nV++[V.int (nds.length:Int)])])[tS]? = some (.list (S.map nV)):=Pre.app _ _ _ _ (Pre.app _ _ _ _ eS)
 generalize H1'++[O.list [V.int (nds.length:Int)]]++[O.list (S.map nV++[V.int (nds.length:Int)])]=H2 at p2 eS2
 clear eS p1' H1'
 dsimp only [↓n_K,↓n_bind]
 rw [n_sliceL (p2 _ _ L.h) L.v1000 pt_none pt_int,cut_take (Nat.le_trans hfl (Nat.le_of_eq hl.symm))]
 dsimp only [↓n_K,↓n_bind]
 have pa:=Pre.app H2 [O.list (vs.take (fstd nds))]
 have L3:=(L.mono p2).mono pa
 refine n_lcN at_last (L3.a.take (fstd nds)) (Nat.lt_of_le_of_lt (List.length_take_le' (fstd nds) nds) L.n200) (λ nd=>if nd.stay then some (dsc nd) else none) (λ v nd hm H' hp hn=>?_) λ H3 p3=>?_
 ·have e:=λ{P:V→Hp→Prop}{X:Addr→Hp→Prop}=>nd_kind F (X:=X) hn (P:=P)
  dsimp only [↓n_bind]
  rw [e]
  dsimp only [↓n_K,↓n_bind]
  rw [n_in (ns:=[9,10,13]) rfl]
  dsimp only [↓n_K,↓n_ifb]
  simp only [n_iU,stay_in]
  refine⟨λ q=>?_,λ q=>?_⟩
  ·dsimp only [↓n_bind]
   refine f_desc1 F (L.ok.take _ nd hm) hn λ H4 p4=>?_
   dsimp only [↓n_K,↓n_pure]
   exact⟨by rw [q];rfl,p4⟩
  ·dsimp only [↓n_pure]
   exact⟨by rw [q];rfl,.refl _⟩
 have hA:(nds.take (fstd nds)).filterMap (λ nd=>if nd.stay then some (dsc nd) else none)=((nds.take (fstd nds)).filter Nd.stay).map dsc:=fm_if Nd.stay dsc _
 rw [hA,n_K,n_bind,n_alloc,n_K]
 have hAl:((nds.take (fstd nds)).filter Nd.stay).length≤100:=Nat.le_trans (List.length_filter_le ..) (Nat.le_trans (List.length_take_le' ..) hlen)
 generalize (nds.take (fstd nds)).filter Nd.stay=A at hsp hAl
 have p3':=(p2.trans (pa.trans p3)).app' [O.list (A.map dsc)]
 have eS3:=Pre.app _ [O.list (A.map dsc)] _ _ ((pa.trans p3) _ _ eS2)
 have eA:=at_last (H:=H3) (o:=O.list (A.map dsc))
 generalize H3.length=tA at eA
 generalize H3++[O.list (A.map dsc)]=H4 at p3' eS3 eA
 clear p3 H3 L3 pa eS2 p2 H2
 dsimp only [↓n_bind,↓n_alloc,↓n_K]
 rw [n_eqL (Pre.app _ _ _ _ eS3) at_last eq_nil]
 dsimp only [↓n_K,↓n_ifb]
 have p5:=p3'.app' [O.list []]
 have eA5:=Pre.app _ [O.list []] _ _ eA
 generalize H4++[O.list []]=H5 at p5 eA5
 clear eA eS3 p3' H4
 have hem:(S.map nV).isEmpty=decide (fstd nds=nds.length):=by rw [←hSe];cases S<;>rfl
 simp only [hem,n_iD]
 refine⟨λ q=>?_,λ q=>?_⟩
 ·have q':fstd nds=nds.length:=q
  dsimp only [↓n_bind]
  rw [n_tupL eA5 (by rw [List.length_map];exact Nat.le_trans hAl (by decide))]
  have:=hP H5 p5
  rw [hsp,q',List.drop_length,List.append_nil] at this
  exact this
 have q':fstd nds<nds.length:=Nat.lt_of_le_of_ne hfl q
 obtain⟨nd,hnd⟩:∃ nd,nds[fstd nds]? = some nd:=⟨_,List.getElem?_eq_getElem q'⟩
 have hstd:nd.std=true:=by
  have:=hfe q'
  unfold stdAt at this
  rw [hnd] at this
  simpa using this
 have hdr:nds.drop (fstd nds)=nd::nds.drop (fstd nds+1):=by
  obtain⟨h1,h2⟩:=List.getElem?_eq_some_iff.mp hnd
  rw [←h2];exact List.drop_eq_getElem_cons h1
 have hsp':prune t nds=A++(.skip (room t (nd.hgt.getD 0)) 108::nds.drop (fstd nds)):=by simp only [hsp,hdr]
 obtain⟨v,hv,hn,hgt⟩:=get_node F (L.mono p5) hnd
 have eh:=λ{P:V→Hp→Prop}{X:Addr→Hp→Prop}=>nd_height F (X:=X) hn hstd (P:=P)
 have et:=p5 _ _ ht
 have key:∀{g:V→M Fl}{Q:Fl→Hp→Prop},Kx g Q X (.int (nd.hgt.getD 0)) H5→R.f (M.bind (cmpV .IsNot (oV nd.hgt) .none) (λ r=>M.bind (if r then c_817_6 K (.ref i) (.int (fstd nds:Int)) else M.pure (V.int 0)) g) H5) Q X:=λ{g Q} hk=>by
  cases ehh:nd.hgt with
  | none=>
   rw [ehh] at hk
   simp only [↓n_bind,↓n_K,↓n_pure,↓n_ifb,n_iF,Bool.not_true,oV,↓n_isnot sN,isN_n]
   exact hk
  | some x=>
   rw [ehh] at hk eh
   simp only [↓n_bind,↓n_K,↓n_ifb,n_iT,Bool.not_false,oV,↓n_isnot sI,isN_i,↓hgt,↓eh]
   exact hk
 dsimp only [↓n_bind]
 rw [hgt]
 dsimp only [↓n_K,↓n_bind]
 rw [eh]
 dsimp only [↓n_K]
 refine key ?_
 generalize hhh:nd.hgt.getD 0=hh at hsp'
 simp only [↓n_bind,↓n_K,↓n_sub,↓n_max,↓n_methC,↓gl_w F et,↓n_methF et F.t_250_parts rfl,↓f_parts F et]
 rw [n_sliceT (by simp) pt_int pt_none,cut_one (by simp)]
 dsimp only [↓n_K,↓n_bind]
 rw [n_addT (by simp)]
 simp only [↓n_bind,↓n_K,↓n_add,↓n_alloc]
 rw [n_addL (Pre.app _ _ _ _ eA5) at_last (by rw [List.length_map];exact Nat.le_trans (Nat.succ_le_succ hAl) (by decide))]
 dsimp only [↓n_K,↓n_bind]
 rw [n_tupL at_last (by rw [List.length_append,List.length_map];exact Nat.le_trans (Nat.succ_le_succ hAl) (by decide))]
 have p6:=(p5.app' [O.list [.tup [.int 6,.tup ([V.int (max 0 (t.w-hh))]++List.drop 1 [V.int t.w,.int t.s,.int t.so,.int t.k,.int t.ko]),.int (100+8),.tup []]]]).app' [O.list (A.map dsc++[.tup [.int 6,.tup ([V.int (max 0 (t.w-hh))]++List.drop 1 [V.int t.w,.int t.s,.int t.so,.int t.k,.int t.ko]),.int (100+8),.tup []]])]
 dsimp only [↓n_K,↓n_bind]
 rw [n_sliceL (p6 _ _ L.h) L.v1000 pt_int pt_none,cut_drop (Nat.le_trans hfl (Nat.le_of_eq hl.symm))]
 dsimp only [↓n_K,↓n_bind]
 have p7:=p6.app' [O.list (vs.drop (fstd nds))]
 have L7:=L.mono p7
 refine f_dlist1 F (nds:=nds.drop (fstd nds)) ⟨at_last,L7.a.drop _,L.ok.drop _,by rw [List.length_drop];exact Nat.le_trans (Nat.sub_le _ _) hlen⟩ λ H8 p8=>?_
 dsimp only [↓n_K,↓n_bind]
 rw [n_addT (by rw [List.length_append,List.length_map,List.length_map,List.length_drop];exact Nat.le_trans (Nat.add_le_add (Nat.succ_le_succ hAl) (Nat.le_trans (Nat.sub_le _ _) hlen)) (by decide))]
 dsimp only [↓n_K,↓n_pure,↓n_Kr]
 have:=hP H8 (p7.trans p8)
 rw [hsp'] at this
 simpa [dsc,prt,room,fv_ret] using this
end
end VW.Internal
end
section
open PySem PySem.W PySem.SeqAt
set_option backward.match.sparseCases false
set_option maxRecDepth 100000
namespace VW.Internal
open VS.Internal
noncomputable def thenK(k:Lo→M Fl):Fl→M Fl
 | .ret v=>M.pure (.ret v)
 | .next ρ=>k ρ
noncomputable def onlyK(k:Lo→M Fl):Fl→M Fl
 | .next ρ=>k ρ
 | .ret _=>no
theorem n_tryM{m:M V}{f:V→M Fl}{g:M Fl}{k:Lo→M Fl}{H:Hp}{P:Fl→Hp→Prop}{X:Addr→Hp→Prop}
  (h:R.f (m H) (λ v h=>R.f (f v h) P X) (λ c h=>c=80∧R.f (g h) (λ fl h=>R.f (thenK k fl h) P X) (λ _ _=>False))):R.f (tryM m f g k H) P X:=by
 refine h.mono (λ _ _ q=>q) λ c h' q=>?_
 obtain⟨rfl,h2⟩:=q
 dsimp only
 exact h2.mono (λ fl h q=>by cases fl<;>exact q) λ _ _ q=>q
theorem n_tryA{m:M V}{a:V→M Fl}{g:M Fl}{k:Lo→M Fl}{H:Hp}{P:Fl→Hp→Prop}{X:Addr→Hp→Prop}
  (h:R.f (m H) (λ v h=>R.f (a v h) (λ fl h=>R.f (onlyK k fl h) P X) (λ _ _=>False)) (λ c h=>c=80∧R.f (g h) (λ fl h=>R.f (thenK k fl h) P X) (λ _ _=>False))):R.f (tryA m a g k H) P X:=by
 unfold tryA
 refine n_tryM (h.mono (λ v h q=>?_) λ _ _ q=>q)
 exact(q.mono (λ fl h q=>by cases fl<;>exact q) λ _ _ q=>q)
theorem pd_dsc(m:Nat)(nd:Nd):pd (dsc nd) (m+3)=true:=by
 cases nd with
 | rule a b=>cases a<;>cases b<;>rfl
 | _=>rfl
theorem pds_dsc(m:Nat)(nds:List Nd):pds (nds.map dsc) (m+3)=true:=by
 induction nds with
 | nil=>rfl
 | cons nd r ih=>exact(Bool.and_eq_true _ _).mpr ⟨pd_dsc m nd,ih⟩
theorem pd_list(nds:List Nd):pd (.tup (nds.map dsc)) 64=true:=pds_dsc 60 nds
noncomputable def dscB(w h d sg od:Int)(x:Int × Int)(nds:List Nd):V:=.tup [.int 3,.int w,.int h,.int d,.int 0,.int sg,.int od,pr x,.tup (nds.map dsc)]
theorem pd_dscB{w h d sg od:Int}{x:Int × Int}{nds:List Nd}:pd (dscB w h d sg od x nds) 64=true:=by
 show(pds (nds.map dsc) 62&&true)=true
 exact(Bool.and_true _).trans (pds_dsc 59 nds)
theorem pd_emk(nds:List Nd):pd (emk nds) 64=true:=by
 have hm:∀ v∈marks nds,∃ t,v=mkV t:=λ v hv=>by
  obtain⟨nd,_,h⟩:=List.mem_filterMap.mp hv
  cases nd with
  | mark t=>cases h;exact⟨t,rfl⟩
  | _=>exact no_some h
 unfold emk
 split
 ·rfl
 ·rename_i m r e
  obtain⟨t,ht⟩:=hm m (by rw [e];exact .head _)
  obtain⟨t',ht'⟩:=hm ((m::r).getLast (by simp)) (by rw [e];exact List.getLast_mem _)
  rw [ht',ht];rfl
section
variable{K:Frag}(F:KF K){H0 H:Hp}{X:Addr→Hp→Prop}{n:Nat}{hd:Bool}{i:Nat}{vs:List V}{nds:List Nd}
include F
theorem f_descB{b:Nat}{w h d sg od:Int}{x:Int × Int}(B:Bx H b i vs nds w h d sg od x){P:V→Hp→Prop}(hP:∀ H',Pre H H'→P (dscB w h d sg od x nds) H'):R.f (callF K (n+5) hd 526 [.ref b] [] H) P X:=by
 rw [F.u_526_1]
 have h1:=B.e
 simp [↓n_bind,↓n_K,↓n_pure,↓n_asB,↓n_add,↓n_eqI,↓n_ifb,n_iT,n_iF,↓f_cdep F (show(0:Int)≤60 by decide),↓bx_kind F h1,↓bx_width F h1,↓bx_height F h1,↓bx_depth F h1,↓bx_shift F h1,↓bx_sign F h1,↓bx_order F h1,↓bx_items F h1 sR,↓bx_ratio F h1 sT,pr,↓n_addT]
 refine f_dlist F B.L.h B.L.a B.L.ok (by first | exact B.L.n200 | exact Nat.le_of_lt B.L.n200 | exact B.L.len | exact Nat.le_trans B.L.len (by decide)) (by decide) λ H' hp=>?_
 exact hP _ hp
theorem f_heap{l:Addr}{ns:List Int}(hk:lstK K l=some (ns.map V.int))(hn:ns.length≤63){P:V→Hp→Prop}(hP:∀ q H',Hs H' q 0→Pre H H'→P (.ref q) H'):R.f (callF K (n+1) hd 744 [.sta (.ref l)] [] H) P X:=by
 rw [F.u_744]
 have hs:∀{P:V→Hp→Prop}{X:Addr→Hp→Prop},R.f (sliceV K (.sta (.ref l)) .none (.int 24) H) P X=P (.ref H.length) (H++[.list (cutL none (some 24) (ns.map V.int))]):=λ{P X}=>by
  unfold sliceV
  rw [pt_none,pt_int]
  show R.f (onSome (lstK K l) (λ xs=>if xs.length≤1000 then alloc (.list (cutL none (some 24) xs)) else no) H) P X=_
  rw [hk]
  exact n_ite (by rw [List.length_map];exact Nat.le_trans hn (by decide))
 have hc:∃ ms:List Int,cutL none (some 24) (ns.map V.int)=ms.map V.int∧ms.length≤63:=by
  refine⟨ns.take (min 24 ns.length),?_,Nat.le_trans (List.length_take_le' ..) hn⟩
  unfold cutL kms_lo kms_hi
  dsimp only
  simp
 obtain⟨ms,hms,hml⟩:=hc
 dsimp only [↓n_bind]
 rw [hs,hms]
 dsimp only [↓n_K,↓n_bind]
 rw [n_src at_last]
 dsimp only [↓n_K]
 have e1:=at_last (H:=H) (o:=O.list (ms.map V.int))
 have p1:=Pre.app H [O.list (ms.map V.int)]
 generalize H.length=j at e1
 generalize H++[O.list (ms.map V.int)]=H1 at e1 p1
 refine n_for (xs:=ms.map V.int) (λ k ρ h=>h=H1∧∃ w:Int,0≤w∧lk "whole_one" ρ=some (.int w)) (λ k ρ h e=>by obtain⟨rfl,_⟩:=e;exact at_lst e1) (λ k v ρ h k' hv e hk=>?_) (λ ρ h e=>?_) 200 0 _ _ ⟨rfl,0,by decide,rfl⟩ (Nat.zero_le _) (by simp;lia)
 ·obtain⟨rfl,w,hw,l1⟩:=e
  obtain⟨x,rfl⟩:∃ x,v = .int x:=by
   rw [List.getElem?_map] at hv
   cases hq:ms[k]? with
   | none=>rw [hq] at hv;simp at hv
   | some x=>rw [hq] at hv;simp at hv;exact⟨x,hv.symm⟩
  have l2:lk "whole_one" (put "cell" (.int x) ρ)=some (.int w):=(lk_ne (by decide +kernel) ρ).trans l1
  have l3:lk "cell" (put "cell" (.int x) ρ)=some (.int x):=lk_self _ _ _
  have e10:(10:Int)^(30:Int).toNat=1000000000000000000000000000000:=by decide
  simp only [↓n_bind,↓n_K,↓n_lk l2]
  rw [n_mul (mul_small' (by first | decide | lia))]
  simp only [↓n_bind,↓n_K,↓n_pure,↓n_abs,↓n_lk l3]
  rw [n_pow (by decide),e10]
  dsimp only [↓n_K]
  rw [n_mod (by first | decide | lia)]
  dsimp only [↓n_K]
  rw [n_mul (mul_small' (by first | decide | lia))]
  simp only [↓n_bind,↓n_K,↓n_pure,↓n_lt,↓n_add,↓n_int,↓n_lk l3]
  refine hk _ _ ⟨rfl,_,?_,lk_self _ _ _⟩
  have h1:0≤Int.fmod (x.natAbs:Int) 1000000000000000000000000000000:=Int.fmod_nonneg_of_pos _ (by decide)
  generalize Int.fmod (x.natAbs:Int) 1000000000000000000000000000000=y at h1
  split<;>lia
 ·obtain⟨rfl,w,hw,l1⟩:=e
  simp only [↓n_bind,↓n_K,↓n_pure,↓n_lk l1]
  rw [n_tup (by simp)]
  simp only [↓n_K,↓n_Kr,↓n_pure,↓n_alloc]
  exact hP _ _ ⟨w,0,hw,by omega,by omega,at_last⟩ (p1.app' _)
theorem comp_parts{q:Nat}{c:Int}{N:Nat}(hc:c+5*N≤700)(hc0:0≤c){P:List V→Hp→Prop}:∀(m k:Nat) (H:Hp),k≤N→N-k<m→Hs H q (c+5*k)→
  (∀ vs nds H',vs.length=N-k→All2 (NdAt H') vs nds→oks nds→PreX q H H'→Hs H' q (c+5*N)→P vs H')→
  R.f (compLoop m (.rng (N:Int)) k (c_827_1 (callF K (n+5) hd) (.ref q)) H) P X
 | 0,k,H,h1,h2,_,_=>by lia
 | m+1,k,H,h1,h2,hs,hP=>by
  rcases Nat.lt_or_ge k N with hk | hk
  ·have e:itemAt (.rng (N:Int)) k H=some (some (.int (k:Int))):=by
    show some (if(k:Int)<(N:Int) then some (V.int (k:Int)) else none)=_
    rw [if_pos (Int.ofNat_lt.mpr hk)]
   refine Eq.mpr (n_turn e) ?_
   show R.f (M.bind (noexc _) _ H) P X
   rw [n_bnd]
   refine n_noexc ?_
   refine f_part F hs (by lia) λ v nd H1 hn ho p1 hs1=>?_
   have hs1':Hs H1 q (c+5*((k+1:Nat):Int)):=hs1.le (by lia)
   refine comp_parts hc hc0 m (k+1) H1 hk (Nat.lt_of_lt_of_le (Nat.sub_succ_lt_self N k hk) (Nat.le_of_lt_succ h2)) hs1' λ vs nds H' hl ha hok p2 hs2=>?_
   dsimp only [↓n_pure]
   refine hP (v::vs) (nd::nds) H' ((congrArg Nat.succ hl).trans (Nat.succ_pred_eq_of_pos (Nat.sub_pos_of_lt hk))) (.cons (hn.monoX hs1' p2) ha) (λ x hx=>?_) (p1.trans p2) hs2
   rcases List.mem_cons.mp hx with rfl | hx
   ·exact ho
   ·exact hok x hx
  ·have hkN:k=N:=Nat.le_antisymm h1 hk
   subst hkN
   have e:itemAt (.rng (k:Int)) k H=some none:=by
    show some (if(k:Int)<(k:Int) then some (V.int (k:Int)) else none)=_
    rw [if_neg (Int.lt_irrefl _)]
   refine Eq.mpr (n_turn e) ?_
   exact hP [] [] H (by simp) .nil (λ _ h=>by cases h) (.refl _ _) hs
end
end VW.Internal
end
section
open PySem PySem.W PySem.SeqAt
set_option backward.match.sparseCases false
set_option maxRecDepth 100000
namespace VW.Internal
open VS.Internal
theorem sub7{g t:Int}(hg:-1000000≤g∧g≤1000000)(ht:-100000≤t∧t≤100000):-7000000≤g-t∧g-t≤7000000:=wid (isub hg ht) (by decide) (by decide)
section
variable{K:Frag}(F:KF K){H0 H:Hp}{X:Addr→Hp→Prop}{n:Nat}{hd:Bool}{i:Nat}{vs:List V}{nds:List Nd}
include F
theorem s_split{b:Nat}{w h d:Int}(B:Bx H b i vs nds w h d 0 0 ((0:Int),(1:Int))){goal most cap:Int}(hg:-1000000≤goal∧goal≤1000000)(hc:-100≤cap∧cap≤1073741823)(hm:-100≤most∧most≤1073741823)
  {tp:Nat}{t:Gl} (ht:H[tp]? = some (glO t)) (hto:okT t) (hl50:nds.length≤90) {i2:Nat} (L2:Ls H i2 vs nds) {j:Nat}{c:Int} (hch:choice nds goal cap=some (j,c))
  {hb ih:Nat}{vh:List V}{wh sgh odh:Int}{xh:Int × Int} (BH:Bx H hb ih vh (nds.take j) wh goal (low (nds.take j) cap) sgh odh xh) {rv:V} (Rh:RestAt H rv (prune t (nds.drop j)) most)
  {P:V→Hp→Prop} (hP:∀ H',Pre H H'→RestAt H' rv (prune t (nds.drop j)) most→P (.tup [.bool true,rv]) H') :
  R.f (s_822 K (callF K (n+10) hd) (.ref b) (.int goal) (.int cap) (.int most) (.ref tp) (.ref i2) (dscB w h d 0 0 ((0:Int),(1:Int)) nds) (chV (some (j,c))) (.ref hb) rv (emk (nds.take j)) (pr (repA (nds.take j) goal cap)) H) (Kf P) X:=by
 have hl:=B.L.lenV
 have hj:=choice_le hch
 have htl:=tot_le (B.L.ok.take j)
 have hol:=own_le (B.L.ok.take j)
 have hltk:(nds.take j).length≤nds.length:=List.length_take_le' _ _
 have hchV:chV (some (j,c)) = .tup [.int (j:Int),.int c]:=rfl
 rw [s_822,hchV]
 dsimp only [↓n_bind]
 rw [n_is sT]
 dsimp only [↓n_K,↓n_bind,↓n_ifb]
 simp only [isN_t]
 dsimp only [↓n_iF,↓n_bind]
 refine f_descB F B λ H1 p1=>?_
 simp only [↓n_bind,↓n_K,↓n_ifb,n_iF,Bool.not_true,↓n_ne,↓n_eqR pd_dscB]
 refine f_vert F (L2.mono p1) hg hc (λ j' c' H2 p2 hch'=>?_) (λ H2 p2 hch'=>by rw [hch] at hch';cases hch')
 rw [hch] at hch';cases hch'
 simp only [↓n_bind,↓n_K,↓n_pure,↓n_asB,↓n_ifb,n_iF,Bool.not_true,↓n_ne,↓n_eqR (v:=.tup [.int (j:Int),.int c]) rfl]
 have p02:=p1.trans p2
 clear p1 p2
 have L2':=L2.mono p02
 rw [n_getT (by simp) ⟨0,idx_0 (by simp),rfl⟩]
 dsimp only [↓n_K,↓n_bind]
 rw [n_sliceL L2'.h L2'.v1000 pt_none pt_int,cut_take (Nat.le_trans hj (Nat.le_of_eq hl.symm))]
 have pA:=Pre.app H2 [O.list (vs.take j)]
 have LA:Ls (H2++[O.list (vs.take j)]) H2.length (vs.take j) (nds.take j):=⟨at_last,(L2'.a.mono λ _ _ q=>q.mono pA).take j,B.L.ok.take j,Nat.le_trans hltk B.L.len⟩
 have L2'':=L2'.mono pA
 generalize H2.length=ia at LA
 generalize H2++[O.list (vs.take j)]=H3 at pA LA L2''
 dsimp only [↓n_K,↓n_bind]
 rw [n_getT (by simp) ⟨0,idx_0 (by simp),rfl⟩]
 dsimp only [↓n_K,↓n_bind]
 rw [n_sliceL L2''.h L2''.v1000 pt_int pt_none,cut_drop (Nat.le_trans hj (Nat.le_of_eq hl.symm))]
 have pB:=Pre.app H3 [O.list (vs.drop j)]
 have LB:Ls (H3++[O.list (vs.drop j)]) H3.length (vs.drop j) (nds.drop j):=⟨at_last,(L2''.a.mono λ _ _ q=>q.mono pB).drop j,B.L.ok.drop j,by rw [List.length_drop];exact Nat.le_trans (Nat.sub_le _ _) B.L.len⟩
 have LA':=LA.mono pB
 have p04:=p02.trans (pA.trans pB)
 have L24:=L2''.mono pB
 generalize H3.length=ib at LB
 generalize H3++[O.list (vs.drop j)]=H4 at pB LB LA' p04 L24
 clear pA pB LA L2'' L2' p02 H3 H2 H1
 dsimp only [↓n_K,↓n_bind]
 refine f_best F L24 hg hc (λ j' c' H5 p5 hch'=>?_) (λ H5 p5 hch'=>by rw [hch] at hch';cases hch')
 rw [hch] at hch';cases hch'
 dsimp only [↓n_K,↓n_bind]
 refine f_total F (LA'.mono p5) λ H6 p6=>?_
 dsimp only [↓n_K,↓n_bind]
 rw [n_addT (by simp)]
 dsimp only [↓n_K,↓n_bind]
 simp only [n_ne,show([V.int (j:Int),V.int c]++[V.int (tot (nds.take j))])=[V.int (j:Int),V.int c,V.int (tot (nds.take j))] from rfl,n_eqR (v:=.tup [.int (j:Int),.int c,.int (tot (nds.take j))]) rfl]
 simp only [↓n_bind,↓n_K,↓n_ifb,n_iF,Bool.not_true]
 have p46:=p5.trans p6
 have LA6:=LA'.mono p46
 have LB6:=LB.mono p46
 have p06:=p04.trans p46
 clear p46 p5 p6 H5 LA' LB L24 p04 H4
 refine f_low F LA6 λ H7 p7=>?_
 have BH7:=BH.mono (p06.trans p7)
 simp only [↓n_bind,↓n_K,↓n_ifb,n_iF,Bool.not_true,↓bx_kind F BH7.e,↓bx_height F BH7.e,↓bx_depth F BH7.e,↓n_ne,↓n_eqR (v:=.tup [.int 3,.int goal,.int (low (nds.take j) cap)]) rfl,↓bx_items F BH7.e sR]
 refine f_dlist1 F BH7.L λ H8 p8=>?_
 simp only [↓n_bind,↓n_K]
 refine f_dlist1 F ((LA6.mono p7).mono p8) λ H9 p9=>?_
 simp only [↓n_bind,↓n_K,↓n_pure,↓n_asB,↓n_ifb,n_iF,Bool.not_true,↓n_ne,↓n_eqR (pd_list _)]
 have p69:=p7.trans (p8.trans p9)
 have LA9:=LA6.mono p69
 have LB9:=LB6.mono p69
 have p09:=p06.trans p69
 clear p69 p7 p8 p9 H7 H8 BH7 LA6 LB6 p06 H6
 refine f_toks F LA9 λ H10 p10=>?_
 dsimp only [↓n_K,↓n_bind,↓n_alloc]
 have pT:=Pre.app H10 [O.list (marks (nds.take j))]
 refine f_edge F (nds:=nds.take j) at_last (by first | exact Nat.le_trans hltk B.L.len | exact Nat.lt_of_le_of_lt hltk B.L.n200 | exact Nat.le_trans (Nat.le_trans hltk B.L.len) (by decide) | omega) λ H11 p11=>?_
 simp only [↓n_bind,↓n_K,↓n_ifb,n_iF,Bool.not_true,↓n_ne,↓n_eqR (pd_emk _)]
 have p911:=p10.trans (pT.trans p11)
 refine f_total F (LA9.mono p911) λ H12 p12=>?_
 simp only [↓n_bind,↓n_K,↓n_add,↓n_sub]
 rw [show goal-tot (nds.take j)+low (nds.take j) cap=goal-nat (nds.take j) cap by unfold nat;lia]
 refine f_told F ((LA9.mono p911).mono p12) (show -7000000≤goal-nat (nds.take j) cap∧goal-nat (nds.take j) cap≤7000000 from sub7 hg (tm_le (cap:=cap) (B.L.ok.take j) (Nat.le_trans hltk B.L.len) hc.1)) λ H13 p13=>?_
 simp only [told_rep]
 simp only [↓n_bind,↓n_K,↓n_pure,↓n_asB,↓n_ifb,n_iF,Bool.not_true,↓n_ne,↓n_eqR (v:=pr (repA (nds.take j) goal cap)) rfl]
 have p913:=p911.trans (p12.trans p13)
 have LB13:=LB9.mono p913
 have p013:=p09.trans p913
 clear p913 pT p10 p11 p911 p12 p13 H10 H11 H12 LA9 LB9 p09 H9
 refine f_rest F LB13 (p013 _ _ ht) λ H14 p14=>?_
 have p014:=p013.trans p14
 have R14:=Rh.mono p014
 have hPq:pd (.tup ((prune t (nds.drop j)).map dsc)) 64=true:=pd_list _
 have hemp:((prune t (nds.drop j)).map dsc).isEmpty=(prune t (nds.drop j)).isEmpty:=by cases prune t (nds.drop j)<;>rfl
 dsimp only [↓n_K,↓n_bind]
 rw [n_eqU hPq,hemp]
 dsimp only [↓n_K,↓n_bind,↓n_ifb]
 rcases id R14 with ⟨hnil,rfl⟩ | ⟨hne,rb,ir,vr,wr,rfl,BR⟩
 ·have hem':(prune t (nds.drop j)).isEmpty=true:=by rw [hnil];rfl
  simp only [hem']
  dsimp only [↓n_iT]
  simp only [↓n_bind,↓n_K,↓n_pure,↓n_asB,↓n_ifb,n_iT]
  rw [n_eqU hPq,hemp,hem']
  simp only [↓n_bind,↓n_K,↓n_Kr,↓n_pure,↓n_ifb,n_iT,↓n_is sN,isN_n]
  exact hP H14 p014 R14
 ·have hne':(prune t (nds.drop j)).isEmpty=false:=by
   cases hq:prune t (nds.drop j) with
   | nil=>exact absurd hq hne
   | cons=>rfl
  simp only [hne']
  dsimp only [↓n_iF]
  simp only [↓n_bind,↓n_K,↓n_pure,↓n_asB,↓n_ifb,n_iF,↓n_is sR,isN_r,↓bx_items F BR.e sR]
  refine f_low F BR.L λ H15 p15=>?_
  have BR15:=BR.mono p15
  simp only [↓n_bind,↓n_K,↓bx_kind F BR15.e,↓bx_height F BR15.e,↓bx_depth F BR15.e,↓bx_sign F BR15.e,↓bx_items F BR15.e sR]
  refine f_dlist1 F BR15.L λ H16 p16=>?_
  have BR16:=BR15.mono p16
  simp only [↓n_bind,↓n_K,↓n_ifb,n_iT,↓n_eqR hPq,↓bx_items F BR16.e sR]
  refine f_total F BR16.L λ H17 p17=>?_
  simp only [↓n_bind,↓n_K,↓n_sub]
  rw [show tot (prune t (nds.drop j))-low (prune t (nds.drop j)) most=nat (prune t (nds.drop j)) most from rfl,n_eqR (v:=.tup [.int 3,.int (nat (prune t (nds.drop j)) most),.int (low (prune t (nds.drop j)) most),.int 0]) rfl]
  simp only [↓n_K,↓n_Kr,↓n_pure]
  exact hP H17 (p014.trans (p15.trans (p16.trans p17))) (R14.mono (p15.trans (p16.trans p17)))
end
end VW.Internal
end
section
open PySem PySem.W PySem.SeqAt
set_option backward.match.sparseCases false
set_option maxRecDepth 100000
namespace VW.Internal
open VS.Internal
section
variable{K:Frag}(F:KF K){H0 H:Hp}{X:Addr→Hp→Prop}{n:Nat}{i:Nat}{vs:List V}{nds:List Nd}
include F
theorem f_split{b:Nat}{w h d:Int}(B:Bx H b i vs nds w h d 0 0 ((0:Int),(1:Int))){goal most cap:Int}(hg:-1000000≤goal∧goal≤1000000)(hc:-100≤cap∧cap≤1073741823)(hm:-100≤most∧most≤1073741823)
  {tp:Nat}{t:Gl} (ht:H[tp]? = some (glO t)) (hto:okT t) (hl50:nds.length≤90)
  {P:V→Hp→Prop} (hP:∀ H' rv nds',Pre H H'→RestAt H' rv nds' most→nds'.length≤nds.length+1→P (.tup [.bool true,rv]) H') :
  R.f (callF K (n+11) false 822 [.ref b,.int goal,.int cap,.int most,.ref tp] [] H) P X:=by
 rw [F.u_822]
 have hl:=B.L.lenV
 dsimp only [↓n_bind]
 rw [bx_items F B.e sR]
 dsimp only [↓n_K,↓n_bind]
 rw [n_lstL B.L.h (by lia)]
 have p1:=Pre.app H [O.list vs]
 have L2:Ls (H++[O.list vs]) H.length vs nds:=⟨at_last,B.L.a.mono λ _ _ q=>q.mono p1,B.L.ok,B.L.len⟩
 generalize H.length=i2 at L2
 generalize H++[O.list vs]=H1 at p1 L2
 dsimp only [↓n_K,↓n_bind]
 refine f_descB F (B.mono p1) λ H2 p2=>?_
 dsimp only [↓n_K,↓n_bind]
 refine f_choice F (L2.mono p2) hg hc λ H3 p3=>?_
 dsimp only [↓n_K]
 refine n_tryA ?_
 have p03:=p1.trans (p2.trans p3)
 refine f_vsplit F (B.mono p03) hg hc hm (p03 _ _ ht) hto hl50 (λ H4 p4 hch=>⟨rfl,?_⟩) (λ j c H4 hb i' vs' w' sg' od' x' rv p4 hch BH Rhh=>?_)
 ·rw [hch]
  simp only [↓n_bind,↓n_is sN,isN_n]
  refine f_descB F (B.mono (p03.trans p4)) λ H5 p5=>?_
  simp only [↓n_bind,↓n_K,↓n_pure,↓n_eqR pd_dscB]
  show R.f (M.pure _ _) _ _
  dsimp only [↓n_pure]
  exact hP H5 .none [] (p03.trans (p4.trans p5)) (.inl ⟨rfl,rfl⟩) (by simp)
 ·dsimp only [↓n_un4,↓n_pure]
  show R.f (r_822 K _ _ _ _) _ _
  rw [F.rs_822,hch]
  refine s_split F (B.mono (p03.trans p4)) hg hc hm ((p03.trans p4) _ _ ht) hto hl50 ((L2.mono (p2.trans p3)).mono p4) hch BH Rhh λ H5 p5 R5=>?_
  refine hP H5 rv _ (p03.trans (p4.trans p5)) R5 ?_
  have:=prune_len (t:=t) (nds:=nds.drop j)
  rw [List.length_drop] at this
  lia
end
end VW.Internal
end
section
open PySem PySem.W PySem.SeqAt
set_option backward.match.sparseCases false
set_option maxRecDepth 100000
namespace VW.Internal
open VS.Internal
theorem Ls.monoX{H H':Hp}{q i:Nat}{k:Int}{vs:List V}{nds:List Nd}(hs:Hs H q k)(p:PreX q H H')(L:Ls H i vs nds)(hn:3≤nds.length):Ls H' i vs nds where
 h:=p _ _ (hs.ne L.h λ x y e=>by have:=L.lenV;cases e;simp at this;lia) L.h
 a:=L.a.mono λ _ _ h=>h.monoX hs p
 ok:=L.ok
 len:=L.len
noncomputable def FoundAt(H:Hp)(v:V)(nds:List Nd):Prop:=v = .none∨∃ b i vs w h d,v = .ref b∧Bx H b i vs nds w h d 0 0 ((0:Int),(1:Int))
structure LB(ρ:Lo)(rv:V)(goal cap most:Int)(tp:Nat):Prop where
 l1:lk "found" ρ=some rv
 l2:lk "goal" ρ=some (.int goal)
 l3:lk "cap" ρ=some (.int cap)
 l4:lk "most" ρ=some (.int most)
 l5:lk "top" ρ=some (.ref tp)
theorem LB.turn{ρ:Lo}{rv:V}{goal cap most:Int}{tp:Nat}(B:LB ρ rv goal cap most tp)(v:V):LB (put "turn" v ρ) rv goal cap most tp:=
 ⟨(lk_ne (by decide +kernel) ρ).trans B.l1,(lk_ne (by decide +kernel) ρ).trans B.l2,(lk_ne (by decide +kernel) ρ).trans B.l3,(lk_ne (by decide +kernel) ρ).trans B.l4,(lk_ne (by decide +kernel) ρ).trans B.l5⟩
theorem LB.good{ρ:Lo}{rv:V}{goal cap most:Int}{tp:Nat}(B:LB ρ rv goal cap most tp)(v rv':V):LB (put "found" rv' (put "good" v ρ)) rv' goal cap most tp:=
 ⟨lk_self _ _ _,(lk_ne (by decide +kernel) _).trans ((lk_ne (by decide +kernel) ρ).trans B.l2),(lk_ne (by decide +kernel) _).trans ((lk_ne (by decide +kernel) ρ).trans B.l3),(lk_ne (by decide +kernel) _).trans ((lk_ne (by decide +kernel) ρ).trans B.l4),(lk_ne (by decide +kernel) _).trans ((lk_ne (by decide +kernel) ρ).trans B.l5)⟩
section
variable{K:Frag}(F:KF K){H0 H:Hp}{X:Addr→Hp→Prop}{n:Nat}{i:Nat}{vs:List V}{nds:List Nd}
include F
theorem r_loop{goal most cap:Int}(hg:-1000000≤goal∧goal≤1000000)(hc:-100≤cap∧cap≤1073741823)(hm:-100≤most∧most≤1073741823){tp:Nat}{t:Gl}(ht:H[tp]? = some (glO t))(hto:okT t)
  {ρ:Lo}{rv:V} (B:LB ρ rv goal cap most tp) (hf:FoundAt H rv nds) (hl:nds.length≤11) {P:V→Hp→Prop} (hP:∀ H',P (.bool true) H') :
  R.f (r_827 K (callF K (n+11) false) ρ H) (Kf P) X:=by
 dsimp only [r_827]
 dsimp only [↓n_bind,↓n_range,↓n_K]
 rw [n_srcR (by decide)]
 dsimp only [↓n_K]
 refine n_for (xs:=(List.range 4).map nV) (λ j ρ h=>∃ rv nds,Pre H h∧LB ρ rv goal cap most tp∧FoundAt h rv nds∧nds.length≤11+j) (λ j ρ h e=>?_) (λ j v ρ h k' hv e hk=>?_) (λ ρ h e=>?_) 200 0 _ _ ⟨rv,nds,.refl _,B,hf,by omega⟩ (Nat.zero_le _) (by decide)
 ·exact at_range (n:=4)
 ·obtain⟨rv,nds,p,B,hf,hln⟩:=e
  have hj:j<4:=by
   have:=(List.getElem?_eq_some_iff.mp hv).1
   exact this
  show R.f (r_827_7 _ (put "turn" v ρ) k' h) _ _
  have B1:=B.turn v
  generalize put "turn" v ρ=ρ1 at B1 ⊢
  rcases hf with rfl | ⟨b,i,vs,w,h1,d,rfl,BX⟩
  ·simp only [↓n_bind,↓n_K,↓n_pure,↓n_asB,↓n_ifb,n_iF,Bool.not_true,↓n_lk B1.l1,↓n_isnot sN,isN_n]
   exact hk ρ1 h ⟨.none,nds,p,B1,.inl rfl,Nat.le_succ_of_le hln⟩
  ·simp only [↓n_bind,↓n_K,↓n_pure,↓n_asB,↓n_ifb,n_iT,Bool.not_false,↓n_lk B1.l1,↓n_lk B1.l2,↓n_lk B1.l3,↓n_lk B1.l4,↓n_lk B1.l5,↓n_isnot sR,isN_r]
   refine f_split F BX hg hc hm (p _ _ ht) hto (by lia) λ H2 rv' nds' p2 Rh hl'=>?_
   show R.f (r_827_2 (put "found" rv' (put "good" (.bool true) ρ1)) k' H2) _ _
   have B2:=B1.good (.bool true) rv'
   have lg:lk "good" (put "found" rv' (put "good" (.bool true) ρ1))=some (.bool true):=(lk_ne (by decide +kernel) _).trans (lk_self _ _ _)
   generalize put "found" rv' (put "good" (.bool true) ρ1)=ρ2 at B2 lg ⊢
   simp only [↓n_bind,↓n_K,↓n_asB,↓n_not,↓n_ifb,n_iF,Bool.not_true,↓n_lk lg]
   refine hk ρ2 H2 ⟨rv',nds',p.trans p2,B2,?_,by lia⟩
   rcases Rh with ⟨_,rfl⟩ | ⟨_,b',i',vs',w',rfl,BR⟩
   ·exact .inl rfl
   ·exact .inr ⟨b',i',vs',w',_,_,rfl,BR⟩
 ·exact hP h
theorem f_law{l:Addr}{ns:List Int}(hk:lstK K l=some (ns.map V.int))(hn:ns.length≤63):R.f (callF K (n+12) false 827 [.sta (.ref l)] [] []) (λ v _=>v = .bool true) (λ _ _=>False):=by
 rw [F.u_827]
 dsimp only [↓n_bind]
 refine f_heap F hk hn λ q H1 hs1 _=>?_
 dsimp only [↓n_K,↓n_bind]
 refine f_take F hs1 (by decide) (by decide) λ d0 H2 hd0 _ hs2=>?_
 dsimp only [↓n_K,↓n_bind,↓n_add,↓n_range]
 obtain⟨N,hN⟩:∃ N:Nat,(3:Int)+d0=(N:Int):=Int.eq_ofNat_of_zero_le (Int.add_nonneg (by decide) hd0.1)
 have hNb:3≤(N:Int)∧(N:Int)≤11:=hN▸wid (iadd (a:=3) (b:=3) (d:=8) (by decide) ⟨hd0.1,Int.le_of_lt_add_one hd0.2⟩) (by decide) (by decide)
 have hN3:3≤N:=Int.ofNat_le.mp hNb.1
 have hN11:N≤11:=Int.ofNat_le.mp hNb.2
 rw [hN,n_srcR (srcN (Nat.le_trans hN11 (by decide)))]
 dsimp only [↓n_K,↓n_bind]
 refine comp_parts F (c:=1) (N:=N) (by lia) (by lia) 200 0 H2 (Nat.zero_le _) (by lia) (hs2.le (by omega)) λ vs nds H3 hvl ha hok _ hs3=>?_
 rw [n_K,n_bind,n_alloc,n_K]
 have hnl:nds.length=N:=ha.length.symm.trans hvl
 have h3:3≤nds.length:=Nat.le_trans hN3 (Nat.le_of_eq hnl.symm)
 have h9:(1:Int)+5*N≤900:=Int.le_trans (Int.add_le_add_left (Int.mul_le_mul_of_nonneg_left hNb.2 (by decide)) 1) (by decide)
 have L4:Ls (H3++[O.list vs]) H3.length vs nds:=⟨at_last,ha.mono λ _ _ h=>h.mono (.app _ _),hok,Nat.le_trans (Nat.le_of_eq hnl) (Nat.le_trans hN11 (by decide))⟩
 have hs4:=hs3.pre (Pre.app H3 [O.list vs])
 generalize H3.length=it at L4
 generalize H3++[O.list vs]=H4 at L4 hs4
 dsimp only [↓n_bind]
 refine f_take F hs4 (t0 h9) (by decide) λ goal H5 hgoal p5 hs5=>?_
 have L5:=L4.monoX hs4 p5 h3
 dsimp only [↓n_K,↓n_bind]
 rw [n_pow (by decide)]
 dsimp only [↓n_K,↓n_bind,↓n_sub]
 dsimp only [↓n_K,↓n_bind,↓n_alloc]
 have a5:=Pre.app H5 [O.list [.int AWFUL,.int 2,.int 0,.int (-1)]]
 refine f_take F (hs5.pre a5) (t1 h9) (by decide) λ x H6 hx p6 hs6=>?_
 have L6:=(L5.mono a5).monoX (hs5.pre a5) p6 h3
 have e6:H6[H5.length]? = some (.list [.int AWFUL,.int 2,.int 0,.int (-1)]):=p6 _ _ (ne_q hs5) at_last
 obtain⟨cap,hcap,ecap⟩:∃ cap:Int,(-100≤cap∧cap≤1073741823)∧∀{P:V→Hp→Prop}{X:Addr→Hp→Prop},R.f (getI (.ref H5.length) (.int x) H6) P X=P (.int cap) H6:=by
  have:x=0∨x=1∨x=2∨x=3:=ord4 ⟨hx.1,Int.le_of_lt_add_one hx.2⟩
  rcases this with rfl | rfl | rfl | rfl
  ·exact⟨AWFUL,by unfold AWFUL;first | decide | lia,λ{P X}=>n_getL e6 (by simp) ⟨0,rfl,rfl⟩⟩
  ·exact⟨2,by first | decide | lia,λ{P X}=>n_getL e6 (by simp) ⟨1,rfl,rfl⟩⟩
  ·exact⟨0,by first | decide | lia,λ{P X}=>n_getL e6 (by simp) ⟨2,rfl,rfl⟩⟩
  ·exact⟨-1,by first | decide | lia,λ{P X}=>n_getL e6 (by simp) ⟨3,rfl,rfl⟩⟩
 dsimp only [↓n_K,↓n_bind]
 rw [ecap]
 dsimp only [↓n_K,↓n_bind]
 rw [n_pow (by decide)]
 dsimp only [↓n_K,↓n_bind,↓n_sub]
 dsimp only [↓n_K,↓n_bind,↓n_alloc]
 have a6:=Pre.app H6 [O.list [.int AWFUL,.int 3,.int 0]]
 refine f_take F (hs6.pre a6) (t2 h9) (by decide) λ y H7 hy p7 hs7=>?_
 have L7:=(L6.mono a6).monoX (hs6.pre a6) p7 h3
 have e7:H7[H6.length]? = some (.list [.int AWFUL,.int 3,.int 0]):=p7 _ _ (ne_q hs6) at_last
 obtain⟨most,hmost,emost⟩:∃ most:Int,(-100≤most∧most≤1073741823)∧∀{P:V→Hp→Prop}{X:Addr→Hp→Prop},R.f (getI (.ref H6.length) (.int y) H7) P X=P (.int most) H7:=by
  have:y=0∨y=1∨y=2:=by lia
  rcases this with rfl | rfl | rfl
  ·exact⟨AWFUL,by unfold AWFUL;first | decide | lia,λ{P X}=>n_getL e7 (by simp) ⟨0,rfl,rfl⟩⟩
  ·exact⟨3,by first | decide | lia,λ{P X}=>n_getL e7 (by simp) ⟨1,rfl,rfl⟩⟩
  ·exact⟨0,by first | decide | lia,λ{P X}=>n_getL e7 (by simp) ⟨2,rfl,rfl⟩⟩
 dsimp only [↓n_K,↓n_bind]
 rw [emost]
 dsimp only [↓n_K,↓n_bind]
 refine f_take F hs7 (t3 h9) (by decide) λ tw H8 htw p8 hs8=>?_
 have L8:=L7.monoX hs7 p8 h3
 dsimp only [↓n_K,↓n_bind]
 refine f_take F hs8 (t4 h9) (by decide) λ ts H9 hts p9 hs9=>?_
 have L9:=L8.monoX hs8 p9 h3
 dsimp only [↓n_K,↓n_bind]
 refine f_take F hs9 (t5 h9) (by decide) λ tso H10 htso p10 hs10=>?_
 have L10:=L9.monoX hs9 p10 h3
 dsimp only [↓n_K,↓n_bind]
 refine f_take F hs10 (t6 h9) (by decide) λ tk H11 htk p11 hs11=>?_
 have L11:=L10.monoX hs10 p11 h3
 dsimp only [↓n_K,↓n_bind]
 rw [mk_gl F (bg htw (by decide)) (bg hts (by decide)) (bg htk (by decide)) (by first | exact⟨htso.1,Int.le_of_lt_add_one htso.2⟩ | lia) (by decide)]
 have hto:okT (nrm ⟨tw,ts,tso,tk,0⟩):=by
  unfold okT okG nrm
  dsimp only
  refine⟨⟨wid (lq htw) (by decide) (by decide),wid (lq hts) (by decide) (by decide),by first | exact iteL (by decide) ⟨htso.1,Int.le_of_lt_add_one htso.2⟩ | (split<;>lia),wid (lq htk) (by decide) (by decide),by split<;>exact .inl rfl⟩,λ h=>by rw [if_pos h],λ h=>by rw [if_pos h]⟩
 generalize nrm ⟨tw,ts,tso,tk,0⟩=t at hto
 have a11:=Pre.app H11 [glO t]
 have L12:=L11.mono a11
 have et:=at_last (H:=H11) (o:=glO t)
 generalize H11.length=tp at et
 generalize H11++[glO t]=H12 at L12 et
 dsimp only [↓n_K,↓n_bind]
 rw [f_vsplitN F]
 dsimp only [↓n_K,↓n_bind]
 rw [n_ne,n_eqR (v:=.tup [.none,.none,.tup [.tup [],.tup []],.tup [.int 0,.int 0]]) rfl,Bool.not_true]
 dsimp only [↓n_K,↓n_ifb,↓n_iF]
 refine n_tryM ?_
 rw [n_bind,mk_box F (by decide) (by decide) (by decide) (by decide),n_K]
 have p13:=Pre.app H12 [boxO 2 5 5 0 (.ref it) 0 0 0 r01]
 refine f_vsplitK F at_last (by decide) ⟨rfl,?_⟩
 have L13:=L12.mono p13
 have et13:=p13 _ _ et
 generalize H12++[boxO 2 5 5 0 (.ref it) 0 0 0 r01]=H13 at L13 et13
 dsimp only [↓n_bind]
 rw [F.u_640_1]
 refine f_vpack F L13 (.inr rfl) (by decide) (by decide) λ H14 b w sg od x p14 hb hz=>?_
 dsimp only [↓n_K,↓n_bind]
 rw [n_getT (by simp) ⟨0,idx_0 (by simp),rfl⟩]
 dsimp only [↓n_K,↓n_pure]
 obtain⟨rfl,rfl,rfl⟩:=hz (by rw [if_neg (by decide),Int.add_zero,Int.sub_self])
 refine r_loop F (nds:=nds) (by lia) hcap hmost (p14 _ _ et13) hto (rv:=.ref b) ⟨rfl,rfl,rfl,rfl,rfl⟩ (.inr ⟨b,it,vs,w,_,_,rfl,hb,L13.mono p14⟩) (Nat.le_trans (Nat.le_of_eq hnl) hN11) (P:=λ v _=>v = .bool true) λ _=>rfl
end
end VW.Internal
end
section
open PySem PySem.W PyProof.Rows
namespace VS
open VS.Internal
namespace the_law
theorem tw5094351453939632605:True:=⟨⟩
theorem tw7235528794194376445:True:=⟨⟩
theorem tw7152355082234718109:True:=⟨⟩
theorem tw17966863434248721341:True:=⟨⟩
theorem tw17868321683100115901:True:=⟨⟩
theorem tw17262971942335650749:True:=⟨⟩
theorem tw2854775074345586461:True:=⟨⟩
theorem tw8970670859299033917:True:=⟨⟩
theorem tw17742396825180599101:True:=⟨⟩
theorem tw12353024390889145149:True:=⟨⟩
theorem tw2517079181857567613:True:=⟨⟩
theorem tw9641340387775494013:True:=⟨⟩
theorem tw13753374758345646237:True:=⟨⟩
theorem tw16173719331147623389:True:=⟨⟩
theorem tw10219361447525483549:True:=⟨⟩
theorem tw14294393594231524413:True:=⟨⟩
theorem tw5197053069639054397:True:=⟨⟩
theorem tw15262944546243851389:True:=⟨⟩
theorem tw11241173794485146013:True:=⟨⟩
theorem tw7901952861438557597:True:=⟨⟩
theorem tw10068200157376570813:True:=⟨⟩
theorem tw4107586398485266653:True:=⟨⟩
theorem tw5799207149855490557:True:=⟨⟩
theorem tw10314741036819946781:True:=⟨⟩
theorem tw11848007127762540829:True:=⟨⟩
theorem tw9523081563605265693:True:=⟨⟩
theorem tw16559065319363380541:True:=⟨⟩
theorem tw1771693199026927012:True:=⟨⟩
theorem tw13653276912891193188:True:=⟨⟩
theorem tw14691809564322928580:True:=⟨⟩
theorem tw1318995217910067940:True:=⟨⟩
theorem tw2183576753129653988:True:=⟨⟩
theorem tw15940765472284374756:True:=⟨⟩
theorem tw4229120166867662852:True:=⟨⟩
theorem tw6554529766543227940:True:=⟨⟩
theorem tw2371747143739922244:True:=⟨⟩
theorem tw18023034984989541572:True:=⟨⟩
theorem tw2961263206862254276:True:=⟨⟩
theorem tw3885476973339698148:True:=⟨⟩
theorem tw13789305359332590884:True:=⟨⟩
theorem tw16538767650732890468:True:=⟨⟩
theorem tw10481371474634517668:True:=⟨⟩
theorem tw14379866869967245764:True:=⟨⟩
theorem tw9560747259718723012:True:=⟨⟩
theorem tw3909142153340836068:True:=⟨⟩
theorem tw6125975605733192196:True:=⟨⟩
theorem tw3466452581104567663:True:=⟨⟩
theorem tw18285472151428444335:True:=⟨⟩
theorem tw2051317901770621103:True:=⟨⟩
theorem tw5895712755999389135:True:=⟨⟩
theorem tw9254777301291244815:True:=⟨⟩
theorem tw10110359268422750767:True:=⟨⟩
theorem tw15366600681102740815:True:=⟨⟩
theorem tw1232813245712939663:True:=⟨⟩
theorem tw11045673785559417711:True:=⟨⟩
theorem tw9320059529200060303:True:=⟨⟩
theorem tw4200479252104170447:True:=⟨⟩
theorem tw5089943567027978991:True:=⟨⟩
theorem tw4213851147410160367:True:=⟨⟩
theorem tw9803046215998225231:True:=⟨⟩
theorem tw17435495303780350095:True:=⟨⟩
theorem tw14603906071673773999:True:=⟨⟩
theorem tw10279634877727350703:True:=⟨⟩
theorem tw6997680855901795247:True:=⟨⟩
theorem tw12748447894460384239:True:=⟨⟩
theorem tw15139845629899407375:True:=⟨⟩
theorem tw4102930938559543990:True:=⟨⟩
theorem tw18102299265744573398:True:=⟨⟩
theorem tw12883824522224036630:True:=⟨⟩
theorem tw11588845644055036982:True:=⟨⟩
theorem tw9461188585078194006:True:=⟨⟩
theorem tw15782820988881484662:True:=⟨⟩
theorem tw5818045406517856118:True:=⟨⟩
theorem tw13002400637358503798:True:=⟨⟩
theorem tw8290474144506278038:True:=⟨⟩
theorem tw8229708638490150038:True:=⟨⟩
theorem tw1893820488960018582:True:=⟨⟩
theorem tw2169254152737525910:True:=⟨⟩
theorem tw1270578377033815286:True:=⟨⟩
theorem tw14026966469791477782:True:=⟨⟩
theorem tw13152838513091196950:True:=⟨⟩
theorem tw8728963688093144086:True:=⟨⟩
theorem tw16521481451966450998:True:=⟨⟩
theorem tw1026727756367526198:True:=⟨⟩
theorem tw7971794264914717782:True:=⟨⟩
theorem tw8553022860975070614:True:=⟨⟩
theorem tw15442597350906197462:True:=⟨⟩
theorem tw2615488375265916182:True:=⟨⟩
theorem tw17892258910945942070:True:=⟨⟩
theorem tw16653957230240946518:True:=⟨⟩
theorem tw17319844471736441174:True:=⟨⟩
theorem tw9545788816785084790:True:=⟨⟩
theorem tw13700576475396647350:True:=⟨⟩
theorem tw16584064564613174806:True:=⟨⟩
theorem tw6767302059645175606:True:=⟨⟩
theorem tw10762300415421531766:True:=⟨⟩
theorem tw5143737657878797761:True:=⟨⟩
theorem tw912260552401892801:True:=⟨⟩
theorem tw3079398700534134241:True:=⟨⟩
theorem tw16451206677497322241:True:=⟨⟩
theorem tw7398877678102142721:True:=⟨⟩
theorem tw17737495118323127841:True:=⟨⟩
theorem tw13094799186291557921:True:=⟨⟩
theorem tw8302569536946846529:True:=⟨⟩
theorem tw5977427293697912513:True:=⟨⟩
theorem tw7577162709967609857:True:=⟨⟩
theorem tw15178747734426625825:True:=⟨⟩
theorem tw5941043072501721985:True:=⟨⟩
theorem tw11410864583511504769:True:=⟨⟩
theorem tw7664891349193151361:True:=⟨⟩
theorem tw14604093697215872161:True:=⟨⟩
theorem tw17430439241548251457:True:=⟨⟩
theorem tw1561657361522754913:True:=⟨⟩
theorem tw907835585642434913:True:=⟨⟩
theorem tw15549782049481794913:True:=⟨⟩
theorem tw15180113400018537601:True:=⟨⟩
theorem tw8522302239430924417:True:=⟨⟩
theorem tw18432682925680258465:True:=⟨⟩
theorem tw6830984433353046209:True:=⟨⟩
theorem tw14169646785400027361:True:=⟨⟩
theorem tw11654982186376679937:True:=⟨⟩
theorem tw3166934895975083297:True:=⟨⟩
theorem tw16703725308791993633:True:=⟨⟩
theorem tw7129816578195270209:True:=⟨⟩
theorem tw6731112109422703169:True:=⟨⟩
theorem tw4533881691086831169:True:=⟨⟩
theorem tw11957307505815249505:True:=⟨⟩
theorem tw16712406085787957633:True:=⟨⟩
theorem tw11870499388983869825:True:=⟨⟩
theorem tw13035081513950355384:True:=⟨⟩
theorem tw7276194522842608728:True:=⟨⟩
theorem tw14126785180768772184:True:=⟨⟩
theorem tw7401614543773367416:True:=⟨⟩
theorem tw16453227914632164472:True:=⟨⟩
theorem tw3594780221171626168:True:=⟨⟩
theorem tw12376695846687603896:True:=⟨⟩
theorem tw4945565146675686456:True:=⟨⟩
theorem tw1068717237797412376:True:=⟨⟩
theorem tw4210883984206822808:True:=⟨⟩
theorem tw988086444172611256:True:=⟨⟩
theorem tw9188818240220057272:True:=⟨⟩
theorem tw15485125439407551960:True:=⟨⟩
theorem tw17399900067534078456:True:=⟨⟩
theorem tw1930569187465376312:True:=⟨⟩
theorem tw476111667010411352:True:=⟨⟩
theorem tw13383953375889370968:True:=⟨⟩
theorem tw6362975928342024371:True:=⟨⟩
theorem tw5941581868794676403:True:=⟨⟩
theorem tw5796783442082702803:True:=⟨⟩
theorem tw3780193290424865011:True:=⟨⟩
theorem tw2479004023781477651:True:=⟨⟩
theorem tw3425739744111679027:True:=⟨⟩
theorem tw8096708883928804691:True:=⟨⟩
theorem tw7084806967110586995:True:=⟨⟩
theorem tw11329294854615379571:True:=⟨⟩
theorem tw10825702639504198291:True:=⟨⟩
theorem tw1173744217963656691:True:=⟨⟩
theorem tw8195372121607595891:True:=⟨⟩
theorem tw16185647086639392627:True:=⟨⟩
theorem tw16606977674877641619:True:=⟨⟩
theorem tw5759797048061640371:True:=⟨⟩
theorem tw15463404351951068115:True:=⟨⟩
theorem tw4316410668229441267:True:=⟨⟩
theorem tw4778730506527241971:True:=⟨⟩
theorem tw962934524410516243:True:=⟨⟩
theorem tw7924425560539723539:True:=⟨⟩
theorem tw9680655567483314099:True:=⟨⟩
theorem tw15822553103061367731:True:=⟨⟩
theorem tw12893845937794342931:True:=⟨⟩
theorem tw10305466570397567283:True:=⟨⟩
theorem tw5209963391442241098:True:=⟨⟩
theorem tw10640727610923196778:True:=⟨⟩
theorem tw2429693448715299466:True:=⟨⟩
theorem tw13119860626042190506:True:=⟨⟩
theorem tw7741653466619892170:True:=⟨⟩
theorem tw2966763516159190474:True:=⟨⟩
theorem tw1548587559295665674:True:=⟨⟩
theorem tw10987365763319186026:True:=⟨⟩
theorem tw1160406741089807242:True:=⟨⟩
theorem tw15132972471206021098:True:=⟨⟩
theorem tw5548680132219571978:True:=⟨⟩
theorem tw8203653403003346954:True:=⟨⟩
theorem tw17015643596652820522:True:=⟨⟩
theorem tw13002892985001215082:True:=⟨⟩
theorem tw5991208264077419914:True:=⟨⟩
theorem tw17164974029602846090:True:=⟨⟩
theorem tw12647015781950252426:True:=⟨⟩
theorem tw371100157821817322:True:=⟨⟩
theorem tw17877238061504105770:True:=⟨⟩
theorem tw7525549143107822890:True:=⟨⟩
theorem tw16153570257452072085:True:=⟨⟩
theorem tw6659966210332022933:True:=⟨⟩
theorem tw1967646952322593205:True:=⟨⟩
theorem tw10440288590042503605:True:=⟨⟩
theorem tw2931307203695720949:True:=⟨⟩
theorem tw3207000662865908021:True:=⟨⟩
theorem tw13653164563182977621:True:=⟨⟩
theorem tw13670072475765526261:True:=⟨⟩
theorem tw9880464266468917013:True:=⟨⟩
theorem tw1654075692908982101:True:=⟨⟩
theorem tw8811733039990714197:True:=⟨⟩
theorem tw578677150485573333:True:=⟨⟩
theorem tw9673078972530294773:True:=⟨⟩
theorem tw1199706597702164501:True:=⟨⟩
theorem tw11535029688845116597:True:=⟨⟩
theorem tw14532024263970271189:True:=⟨⟩
theorem tw2414109885649941557:True:=⟨⟩
theorem tw8817686972790106165:True:=⟨⟩
theorem tw4047907679147703637:True:=⟨⟩
theorem tw10657674346971164316:True:=⟨⟩
theorem tw15772912549988433564:True:=⟨⟩
theorem tw5127385846150902716:True:=⟨⟩
theorem tw5134549552915147484:True:=⟨⟩
theorem tw1753726371957201628:True:=⟨⟩
theorem tw4086437901584651004:True:=⟨⟩
theorem tw7565526241752567612:True:=⟨⟩
theorem tw4485568899552968796:True:=⟨⟩
theorem tw15065790815694431132:True:=⟨⟩
theorem tw6473291666247670684:True:=⟨⟩
theorem tw10196168706041303228:True:=⟨⟩
theorem tw8492430020636488892:True:=⟨⟩
theorem tw11429086686256261116:True:=⟨⟩
theorem tw3587552421729251324:True:=⟨⟩
theorem tw13356191047807092732:True:=⟨⟩
theorem tw12051352555292199292:True:=⟨⟩
theorem tw16333486842977582524:True:=⟨⟩
theorem tw17924773354601861340:True:=⟨⟩
theorem tw9121052681224741084:True:=⟨⟩
theorem tw15232085264634691100:True:=⟨⟩
theorem tw3122589473727579676:True:=⟨⟩
theorem tw1994025587699643708:True:=⟨⟩
theorem tw16058844224391754332:True:=⟨⟩
theorem tw14025532368871599740:True:=⟨⟩
theorem tw2464295053303177852:True:=⟨⟩
theorem tw3573366186530516380:True:=⟨⟩
theorem tw6116409129687149980:True:=⟨⟩
theorem tw5979433337553515068:True:=⟨⟩
theorem tw13761885545666722364:True:=⟨⟩
theorem tw5220301045738633788:True:=⟨⟩
theorem tw7958974046286435164:True:=⟨⟩
theorem tw8769347366441577308:True:=⟨⟩
theorem tw1603400263560904572:True:=⟨⟩
theorem tw17807038436913240956:True:=⟨⟩
theorem tw18300279804606255815:True:=⟨⟩
theorem tw4705383387968279431:True:=⟨⟩
theorem tw14626612356947872743:True:=⟨⟩
theorem tw16748599451022810151:True:=⟨⟩
theorem tw6439779283109509159:True:=⟨⟩
theorem tw4780222539614085031:True:=⟨⟩
theorem tw2044248327330311463:True:=⟨⟩
theorem tw6223619495690858791:True:=⟨⟩
theorem tw9974828644700288295:True:=⟨⟩
theorem tw9305377730608556103:True:=⟨⟩
theorem tw10621636475175613607:True:=⟨⟩
theorem tw18134763549688749223:True:=⟨⟩
theorem tw16253370179463135687:True:=⟨⟩
theorem tw2990327123996453319:True:=⟨⟩
theorem tw12396141481208521191:True:=⟨⟩
theorem tw14352628347138909671:True:=⟨⟩
theorem tw12852569209831665127:True:=⟨⟩
theorem tw6579270500024161543:True:=⟨⟩
theorem tw8780522797531623975:True:=⟨⟩
theorem tw3243685689160966695:True:=⟨⟩
theorem tw11845541375836309831:True:=⟨⟩
theorem tw16799525655289302343:True:=⟨⟩
theorem tw2341821714406557031:True:=⟨⟩
theorem tw5629567265526999463:True:=⟨⟩
theorem tw743830409234925991:True:=⟨⟩
theorem tw17446094514352694862:True:=⟨⟩
theorem tw12400482437732599374:True:=⟨⟩
theorem tw14286064948812865102:True:=⟨⟩
theorem tw6762710696913242766:True:=⟨⟩
theorem tw10984743779153530286:True:=⟨⟩
theorem tw15645874071156711854:True:=⟨⟩
theorem tw2555886557338502894:True:=⟨⟩
theorem tw14873370951671972366:True:=⟨⟩
theorem tw10096117280973273902:True:=⟨⟩
theorem tw1552286232849505902:True:=⟨⟩
theorem tw6486653175326704238:True:=⟨⟩
theorem tw2020947098855887534:True:=⟨⟩
theorem tw9206001824194791086:True:=⟨⟩
theorem tw11528342614242830030:True:=⟨⟩
theorem tw860480729027637230:True:=⟨⟩
theorem tw17986528472267483118:True:=⟨⟩
theorem tw8678487543004186382:True:=⟨⟩
theorem tw7568996655854411630:True:=⟨⟩
theorem tw2920916663423340398:True:=⟨⟩
theorem tw15702679334968739694:True:=⟨⟩
theorem tw415046886567227630:True:=⟨⟩
theorem tw6796151882565261422:True:=⟨⟩
theorem tw14262712065885596782:True:=⟨⟩
theorem tw8832759023527521774:True:=⟨⟩
theorem tw17075923781265581550:True:=⟨⟩
theorem tw13905530224689166894:True:=⟨⟩
theorem tw972832239719718446:True:=⟨⟩
theorem tw8148698373127634478:True:=⟨⟩
theorem tw7743451105062662553:True:=⟨⟩
theorem tw4562698770375586233:True:=⟨⟩
theorem tw2494281072348728633:True:=⟨⟩
theorem tw15579280573331551833:True:=⟨⟩
theorem tw12415087593426614937:True:=⟨⟩
theorem tw6755883135660980697:True:=⟨⟩
theorem tw2989963485690054105:True:=⟨⟩
theorem tw12499370592527989497:True:=⟨⟩
theorem tw14350876022898218521:True:=⟨⟩
theorem tw16002706752447147545:True:=⟨⟩
theorem tw2275351981871973945:True:=⟨⟩
theorem tw11142712187343310457:True:=⟨⟩
theorem tw14007429301991217785:True:=⟨⟩
theorem tw1924051235441433209:True:=⟨⟩
theorem tw13799072277185520409:True:=⟨⟩
theorem tw2180628226840453945:True:=⟨⟩
theorem tw5916262318735556409:True:=⟨⟩
theorem tw4643466077639169177:True:=⟨⟩
theorem tw6847571981374713017:True:=⟨⟩
theorem tw12678044266971895993:True:=⟨⟩
theorem tw12455388125260581113:True:=⟨⟩
theorem tw12364929653426111737:True:=⟨⟩
theorem tw4090223300306029817:True:=⟨⟩
theorem tw3147024732577332281:True:=⟨⟩
theorem tw11461635455232191088:True:=⟨⟩
theorem tw7169032344354373008:True:=⟨⟩
theorem tw3431752670795054768:True:=⟨⟩
theorem tw4991098156586706416:True:=⟨⟩
theorem tw16754386540870709840:True:=⟨⟩
theorem tw10805837841608856144:True:=⟨⟩
theorem tw4885894432342201296:True:=⟨⟩
theorem tw11561754455314486000:True:=⟨⟩
theorem tw14744781014575465200:True:=⟨⟩
theorem tw14361170023067342864:True:=⟨⟩
theorem tw9070695043793384240:True:=⟨⟩
theorem tw14155234104623329104:True:=⟨⟩
theorem tw1858165145761512272:True:=⟨⟩
theorem tw11174663223088391280:True:=⟨⟩
theorem tw12511663902951639152:True:=⟨⟩
theorem tw9184687667033519216:True:=⟨⟩
theorem tw7349964077241972624:True:=⟨⟩
theorem tw4041717984425659280:True:=⟨⟩
theorem tw16320259753934247088:True:=⟨⟩
theorem tw11266276147711473872:True:=⟨⟩
theorem tw5019231117833761040:True:=⟨⟩
theorem tw6052462441276525840:True:=⟨⟩
theorem tw15297404033296522384:True:=⟨⟩
theorem tw12089002865185357264:True:=⟨⟩
theorem tw6596583463755657520:True:=⟨⟩
theorem tw16826544441297096395:True:=⟨⟩
theorem tw2515253426310111723:True:=⟨⟩
theorem tw11197608303651003915:True:=⟨⟩
theorem tw11692993482592548651:True:=⟨⟩
theorem tw18270667676750990123:True:=⟨⟩
theorem tw11790955857327615563:True:=⟨⟩
theorem tw6286713905489622923:True:=⟨⟩
theorem tw11775650103281628843:True:=⟨⟩
theorem tw5742952119112602283:True:=⟨⟩
theorem tw8975070507006885643:True:=⟨⟩
theorem tw4782831435722706763:True:=⟨⟩
theorem tw17247932193260647531:True:=⟨⟩
theorem tw13997063999160237195:True:=⟨⟩
theorem tw15187417718969671819:True:=⟨⟩
theorem tw2158923499774964651:True:=⟨⟩
theorem tw11266809396502123723:True:=⟨⟩
theorem tw15642350510597694443:True:=⟨⟩
theorem tw7752858057991387115:True:=⟨⟩
theorem tw12093880441606194187:True:=⟨⟩
theorem tw13013880128596209675:True:=⟨⟩
theorem tw16539061812195689771:True:=⟨⟩
theorem tw10685418593669724555:True:=⟨⟩
theorem tw4171040935472970123:True:=⟨⟩
theorem tw1624084825980627115:True:=⟨⟩
theorem tw1422147018348903595:True:=⟨⟩
theorem tw4400401625314049259:True:=⟨⟩
theorem tw1749311440834687243:True:=⟨⟩
theorem tw2298647029334021387:True:=⟨⟩
theorem tw689800061809176907:True:=⟨⟩
theorem tw1381434729928248939:True:=⟨⟩
theorem tw5407462668824196715:True:=⟨⟩
theorem tw18109950443819930251:True:=⟨⟩
theorem tw5258042914405627531:True:=⟨⟩
theorem tw13634462765066989195:True:=⟨⟩
theorem tw9615215952775819915:True:=⟨⟩
theorem tw10825756561818725282:True:=⟨⟩
theorem tw3247434313843153826:True:=⟨⟩
theorem tw17578551167036928706:True:=⟨⟩
theorem tw10858474595065512066:True:=⟨⟩
theorem tw7922574159273720994:True:=⟨⟩
theorem tw15431715989805752482:True:=⟨⟩
theorem tw9449530606622553090:True:=⟨⟩
theorem tw2793228689849670658:True:=⟨⟩
theorem tw6699169853960937506:True:=⟨⟩
theorem tw11730126481864227138:True:=⟨⟩
theorem tw11651090667827347778:True:=⟨⟩
theorem tw4699234632514184514:True:=⟨⟩
theorem tw648017718620285026:True:=⟨⟩
theorem tw16759315926054300770:True:=⟨⟩
theorem tw3984443226502839714:True:=⟨⟩
theorem tw5610462572246067394:True:=⟨⟩
theorem tw6131716882416563490:True:=⟨⟩
theorem tw16624869471689523490:True:=⟨⟩
theorem tw16132964816741311202:True:=⟨⟩
theorem tw8817169694882201474:True:=⟨⟩
theorem tw8052890069105446349:True:=⟨⟩
theorem tw1199285080379860525:True:=⟨⟩
theorem tw11011572297227176493:True:=⟨⟩
theorem tw16827636930619518509:True:=⟨⟩
theorem tw10937324161455167021:True:=⟨⟩
theorem tw16138710597325813581:True:=⟨⟩
theorem tw8696718337446447949:True:=⟨⟩
theorem tw16740007513407914605:True:=⟨⟩
theorem tw776943296979704429:True:=⟨⟩
theorem tw14024520598680809069:True:=⟨⟩
theorem tw11606233966362500077:True:=⟨⟩
theorem tw4756713106093011757:True:=⟨⟩
theorem tw177860971955612461:True:=⟨⟩
theorem tw340454593414196077:True:=⟨⟩
theorem tw1612325263703965581:True:=⟨⟩
theorem tw3555883910589564813:True:=⟨⟩
theorem tw424521107586028429:True:=⟨⟩
theorem tw8739522518457101197:True:=⟨⟩
theorem tw8401715945650627821:True:=⟨⟩
theorem tw16490431065112515853:True:=⟨⟩
theorem tw15034728994121740333:True:=⟨⟩
theorem tw14411439111302807661:True:=⟨⟩
theorem tw15304311191400569965:True:=⟨⟩
theorem tw14017792788990753933:True:=⟨⟩
theorem tw7699859982173905101:True:=⟨⟩
theorem tw16292873379630043437:True:=⟨⟩
theorem tw3171672412378018157:True:=⟨⟩
theorem tw6145688813953507693:True:=⟨⟩
theorem tw9182350122118207149:True:=⟨⟩
theorem tw2232109107998252724:True:=⟨⟩
theorem tw15519079902202281684:True:=⟨⟩
theorem tw17051194805500972756:True:=⟨⟩
theorem tw12196431218810927828:True:=⟨⟩
theorem tw11808766513241888244:True:=⟨⟩
theorem tw9169104155881915156:True:=⟨⟩
theorem tw69588647100533300:True:=⟨⟩
theorem tw12509952932617335348:True:=⟨⟩
theorem tw3728728685442104884:True:=⟨⟩
theorem tw9819948254212175444:True:=⟨⟩
theorem tw591157052552615572:True:=⟨⟩
theorem tw9561357490381389780:True:=⟨⟩
theorem tw11074773782223615956:True:=⟨⟩
theorem tw8716372194039574324:True:=⟨⟩
theorem tw3305857696858190644:True:=⟨⟩
theorem tw2218738549229995828:True:=⟨⟩
theorem tw5240042949576547124:True:=⟨⟩
theorem tw4366349482107247732:True:=⟨⟩
theorem tw17202581700950996084:True:=⟨⟩
theorem tw6879743488366317780:True:=⟨⟩
theorem tw18048543133188897780:True:=⟨⟩
theorem tw6706984599541639444:True:=⟨⟩
theorem tw5568507470688811060:True:=⟨⟩
theorem tw5202536720809667732:True:=⟨⟩
theorem tw2723126498943264916:True:=⟨⟩
theorem tw15275951994096960980:True:=⟨⟩
theorem tw17590519439679962356:True:=⟨⟩
theorem tw11396187296519345396:True:=⟨⟩
theorem tw16728822414436332788:True:=⟨⟩
theorem tw30463133600408084:True:=⟨⟩
theorem tw10032277508091660820:True:=⟨⟩
theorem tw7565976603576262964:True:=⟨⟩
theorem tw18141142256867614079:True:=⟨⟩
theorem tw13423558096617704991:True:=⟨⟩
theorem tw9533084344633757247:True:=⟨⟩
theorem tw62630410796296767:True:=⟨⟩
theorem tw11833870227930137951:True:=⟨⟩
theorem tw2992110765298053855:True:=⟨⟩
theorem tw12861813868902488799:True:=⟨⟩
theorem tw11060707752545016319:True:=⟨⟩
theorem tw1383892781961514815:True:=⟨⟩
theorem tw6982353972916999999:True:=⟨⟩
theorem tw3565752596478858847:True:=⟨⟩
theorem tw3718698934466861951:True:=⟨⟩
theorem tw4051414070287055519:True:=⟨⟩
theorem tw5515629464862450431:True:=⟨⟩
theorem tw13415043528273106783:True:=⟨⟩
theorem tw10321646008687794015:True:=⟨⟩
theorem tw12156668338109806719:True:=⟨⟩
theorem tw14393330672448928895:True:=⟨⟩
theorem tw15280630490952142111:True:=⟨⟩
theorem tw7553010836794021983:True:=⟨⟩
theorem tw15249669514917619398:True:=⟨⟩
theorem tw13348346275188895430:True:=⟨⟩
theorem tw10134985434171851750:True:=⟨⟩
theorem tw8309364815128991526:True:=⟨⟩
theorem tw13006801955190309734:True:=⟨⟩
theorem tw3902290001728619366:True:=⟨⟩
theorem tw885525865480587398:True:=⟨⟩
theorem tw12424196605141526694:True:=⟨⟩
theorem tw2631847176600263846:True:=⟨⟩
theorem tw3225977058659145894:True:=⟨⟩
theorem tw15911728870358242310:True:=⟨⟩
theorem tw14177224041914357766:True:=⟨⟩
theorem tw17397692390524800102:True:=⟨⟩
theorem tw2100837742371130758:True:=⟨⟩
theorem tw14616864990688481702:True:=⟨⟩
theorem tw1626557316203146438:True:=⟨⟩
theorem tw16588707200379630790:True:=⟨⟩
theorem tw14436282240122346982:True:=⟨⟩
theorem tw12694666680440244486:True:=⟨⟩
theorem tw11478274842952012038:True:=⟨⟩
theorem tw9476469393258686758:True:=⟨⟩
theorem tw13663243141183155654:True:=⟨⟩
theorem tw3521479293367997958:True:=⟨⟩
theorem tw1557105633370397574:True:=⟨⟩
theorem tw12681247104407210449:True:=⟨⟩
theorem tw13115150170682093329:True:=⟨⟩
theorem tw4717980831269130865:True:=⟨⟩
theorem tw2029654225253405393:True:=⟨⟩
theorem tw6279646167205324785:True:=⟨⟩
theorem tw2822368343240201009:True:=⟨⟩
theorem tw8781367479650448241:True:=⟨⟩
theorem tw15538226518623438801:True:=⟨⟩
theorem tw17492933485346893073:True:=⟨⟩
theorem tw9387080648796319857:True:=⟨⟩
theorem tw7490882162012951761:True:=⟨⟩
theorem tw17722430745448115409:True:=⟨⟩
theorem tw3642103819129894417:True:=⟨⟩
theorem tw12512085682081634897:True:=⟨⟩
theorem tw8525273363417071185:True:=⟨⟩
theorem tw4832488984076711313:True:=⟨⟩
theorem tw2023730652729829032:True:=⟨⟩
theorem tw2227198537241945832:True:=⟨⟩
theorem tw13908816280276516584:True:=⟨⟩
theorem tw1195476249720494088:True:=⟨⟩
theorem tw11085989559064023048:True:=⟨⟩
theorem tw10948262856040050600:True:=⟨⟩
theorem tw5683743019595419624:True:=⟨⟩
theorem tw11231094997559102728:True:=⟨⟩
theorem tw16614543969983228200:True:=⟨⟩
theorem tw8837908177930302760:True:=⟨⟩
theorem tw3542821135700124008:True:=⟨⟩
theorem tw6759265138517446088:True:=⟨⟩
theorem tw17898275601308782824:True:=⟨⟩
theorem tw17226296241111501320:True:=⟨⟩
theorem tw8559290809619755528:True:=⟨⟩
theorem tw9876338087965570376:True:=⟨⟩
theorem tw14899297955280283240:True:=⟨⟩
theorem tw14467970183151369832:True:=⟨⟩
theorem tw7669091510959875688:True:=⟨⟩
theorem tw952277746670119624:True:=⟨⟩
theorem tw17479152091781702344:True:=⟨⟩
theorem tw16019100543698271720:True:=⟨⟩
theorem tw7410319653222021896:True:=⟨⟩
theorem tw9672800173755255592:True:=⟨⟩
theorem tw2415908439297577544:True:=⟨⟩
theorem tw6168698713255340904:True:=⟨⟩
theorem tw5097858573632626851:True:=⟨⟩
theorem tw930924793968111043:True:=⟨⟩
theorem tw8966966862367920579:True:=⟨⟩
theorem tw10331680785683065315:True:=⟨⟩
theorem tw13715526835311701539:True:=⟨⟩
theorem tw1175925936729777699:True:=⟨⟩
theorem tw10875347525922400579:True:=⟨⟩
theorem tw17801222109486466691:True:=⟨⟩
theorem tw924378397391067555:True:=⟨⟩
theorem tw15082230785934953155:True:=⟨⟩
theorem tw5282436884718202595:True:=⟨⟩
theorem tw8133501304445199875:True:=⟨⟩
theorem tw16217559422705674755:True:=⟨⟩
theorem tw14584775755643664163:True:=⟨⟩
theorem tw12660288449836028483:True:=⟨⟩
theorem tw15041774263433221731:True:=⟨⟩
theorem tw6202255984722647939:True:=⟨⟩
theorem tw5856487058001162115:True:=⟨⟩
theorem tw6708744958718282403:True:=⟨⟩
theorem tw6915515341802376867:True:=⟨⟩
theorem tw969615092562932675:True:=⟨⟩
theorem tw12261039994744073155:True:=⟨⟩
theorem tw3204888245651141379:True:=⟨⟩
theorem tw2906771341578024995:True:=⟨⟩
theorem tw16727966789367578435:True:=⟨⟩
theorem tw7573403197007772515:True:=⟨⟩
theorem tw12366620301392630915:True:=⟨⟩
theorem tw13335941358553310115:True:=⟨⟩
theorem tw11278526031384384707:True:=⟨⟩
theorem tw12503961523277702339:True:=⟨⟩
theorem tw4139793605352390659:True:=⟨⟩
theorem tw15661027372621669443:True:=⟨⟩
theorem tw9592121418271868995:True:=⟨⟩
theorem tw7893484126633226339:True:=⟨⟩
theorem tw15290667122293568858:True:=⟨⟩
theorem tw2500045320577414810:True:=⟨⟩
theorem tw15504548576128158138:True:=⟨⟩
theorem tw1258907429664788922:True:=⟨⟩
theorem tw8980828701849248474:True:=⟨⟩
theorem tw6761658225570791130:True:=⟨⟩
theorem tw13570402824004173338:True:=⟨⟩
theorem tw15583851754969562746:True:=⟨⟩
theorem tw771422018598288282:True:=⟨⟩
theorem tw9188758507020680890:True:=⟨⟩
theorem tw7887638659951648442:True:=⟨⟩
theorem tw17463283995040372602:True:=⟨⟩
theorem tw1915438815769668474:True:=⟨⟩
theorem tw16666659100416712858:True:=⟨⟩
theorem tw11190789386473171162:True:=⟨⟩
theorem tw7195492026291864826:True:=⟨⟩
theorem tw17646537968216403034:True:=⟨⟩
theorem tw5089794454737955930:True:=⟨⟩
theorem tw9853008317931292794:True:=⟨⟩
theorem tw14317736280300053626:True:=⟨⟩
theorem tw9281020767767930330:True:=⟨⟩
theorem tw15814058754162497818:True:=⟨⟩
theorem tw16358273877543065733:True:=⟨⟩
theorem tw10334731571271564485:True:=⟨⟩
theorem tw1033288846519438629:True:=⟨⟩
theorem tw11088591117822047621:True:=⟨⟩
theorem tw13228419058967973349:True:=⟨⟩
theorem tw4976458303390062053:True:=⟨⟩
theorem tw2966592168765311749:True:=⟨⟩
theorem tw4862389196547147589:True:=⟨⟩
theorem tw10835131166500852581:True:=⟨⟩
theorem tw5476925397881334693:True:=⟨⟩
theorem tw17150534732826368709:True:=⟨⟩
theorem tw14309963719770750693:True:=⟨⟩
theorem tw4881721998954892293:True:=⟨⟩
theorem tw5601400517136404261:True:=⟨⟩
theorem tw10697157562860131429:True:=⟨⟩
theorem tw7040609145877567365:True:=⟨⟩
theorem tw3961299006788136101:True:=⟨⟩
theorem tw7571837240028115909:True:=⟨⟩
theorem tw6070760243964748773:True:=⟨⟩
theorem tw6912695453601577221:True:=⟨⟩
theorem tw14711259527588270117:True:=⟨⟩
theorem tw8034969654281593157:True:=⟨⟩
theorem tw7279447704754351461:True:=⟨⟩
theorem tw10667916399985949029:True:=⟨⟩
theorem tw6598022037977310565:True:=⟨⟩
theorem tw8849906838685834156:True:=⟨⟩
theorem tw11050382170626228236:True:=⟨⟩
theorem tw11985039677666783020:True:=⟨⟩
theorem tw11630827107968076588:True:=⟨⟩
theorem tw17831870859821074636:True:=⟨⟩
theorem tw4740609173650183148:True:=⟨⟩
theorem tw5726005694554740780:True:=⟨⟩
theorem tw11395785167093815372:True:=⟨⟩
theorem tw5854479078637300076:True:=⟨⟩
theorem tw15403627937904281964:True:=⟨⟩
theorem tw8532028378523400332:True:=⟨⟩
theorem tw13380747646905311372:True:=⟨⟩
theorem tw8828094104142095788:True:=⟨⟩
theorem tw9451623862104982028:True:=⟨⟩
theorem tw4374303908663518892:True:=⟨⟩
theorem tw9530586080347904684:True:=⟨⟩
theorem tw16130272201838015148:True:=⟨⟩
theorem tw1270981042610395852:True:=⟨⟩
theorem tw839153303915640300:True:=⟨⟩
theorem tw955797526086859244:True:=⟨⟩
theorem tw10657329211053288940:True:=⟨⟩
theorem tw2589831675139283724:True:=⟨⟩
theorem tw16881295981193755276:True:=⟨⟩
theorem tw18267263991904455308:True:=⟨⟩
theorem tw10274973320635594231:True:=⟨⟩
theorem tw2691895527740329463:True:=⟨⟩
theorem tw4192036549779986199:True:=⟨⟩
theorem tw8805063058666320759:True:=⟨⟩
theorem tw14079004333682942839:True:=⟨⟩
theorem tw14053734106582895255:True:=⟨⟩
theorem tw1531803479554274999:True:=⟨⟩
theorem tw15841620994079748791:True:=⟨⟩
theorem tw4413706610080149239:True:=⟨⟩
theorem tw5835625806436160535:True:=⟨⟩
theorem tw5790331715450630167:True:=⟨⟩
theorem tw11680014317656686487:True:=⟨⟩
theorem tw11473535131667892151:True:=⟨⟩
theorem tw8193712442920285495:True:=⟨⟩
theorem tw1438979193608105047:True:=⟨⟩
theorem tw2517715409933560183:True:=⟨⟩
theorem tw15529734180164150455:True:=⟨⟩
theorem tw16810967086397333751:True:=⟨⟩
theorem tw15615041734627644023:True:=⟨⟩
theorem tw4757458674855711351:True:=⟨⟩
theorem tw4988174749723836823:True:=⟨⟩
theorem tw2844578264954460599:True:=⟨⟩
theorem tw244101751650517374:True:=⟨⟩
theorem tw1926004177157738142:True:=⟨⟩
theorem tw6298482284910395102:True:=⟨⟩
theorem tw18314567634733667038:True:=⟨⟩
theorem tw15198550094689408830:True:=⟨⟩
theorem tw6199876333647686558:True:=⟨⟩
theorem tw5505940767213620286:True:=⟨⟩
theorem tw11582023714210164606:True:=⟨⟩
theorem tw16128760812581888158:True:=⟨⟩
theorem tw17741055136274506910:True:=⟨⟩
theorem tw2806020658652146910:True:=⟨⟩
theorem tw9259341977026293982:True:=⟨⟩
theorem tw17858666194239047998:True:=⟨⟩
theorem tw6728701017127396446:True:=⟨⟩
theorem tw12274486704860296286:True:=⟨⟩
theorem tw3501952748791506046:True:=⟨⟩
theorem tw16293351783973597598:True:=⟨⟩
theorem tw9462805612617916894:True:=⟨⟩
theorem tw16805092052994311646:True:=⟨⟩
theorem tw17276035505531818270:True:=⟨⟩
theorem tw10960999270556873278:True:=⟨⟩
theorem tw5793583488373880382:True:=⟨⟩
theorem tw17359413932216664681:True:=⟨⟩
theorem tw12626297199340481001:True:=⟨⟩
theorem tw15879251658467743273:True:=⟨⟩
theorem tw17008956050677978665:True:=⟨⟩
theorem tw18177126514383368009:True:=⟨⟩
theorem tw2595831641709723497:True:=⟨⟩
theorem tw5919166152882573161:True:=⟨⟩
theorem tw7307273909574905481:True:=⟨⟩
theorem tw14356754433749965737:True:=⟨⟩
theorem tw9938947840716021449:True:=⟨⟩
theorem tw17982413324118827753:True:=⟨⟩
theorem tw1748953656944919561:True:=⟨⟩
theorem tw5952849769654897673:True:=⟨⟩
theorem tw12825213514261603433:True:=⟨⟩
theorem tw522569893722497193:True:=⟨⟩
theorem tw6207677142679112873:True:=⟨⟩
theorem tw15247682449154593961:True:=⟨⟩
theorem tw6112505083648900073:True:=⟨⟩
theorem tw6794816889495092489:True:=⟨⟩
theorem tw4460230869415513353:True:=⟨⟩
theorem tw9729794396590903561:True:=⟨⟩
theorem tw7675022563261333769:True:=⟨⟩
theorem tw15306375820078921769:True:=⟨⟩
theorem tw7810229970151362601:True:=⟨⟩
theorem tw2346323287025990272:True:=⟨⟩
theorem tw13676235430185604736:True:=⟨⟩
theorem tw7865468161101508224:True:=⟨⟩
theorem tw752225014541116832:True:=⟨⟩
theorem tw12413192585451367936:True:=⟨⟩
theorem tw17644289581314818624:True:=⟨⟩
theorem tw11247921520891772800:True:=⟨⟩
theorem tw13227698111899583360:True:=⟨⟩
theorem tw5598054213919683520:True:=⟨⟩
theorem tw7984255852005090240:True:=⟨⟩
theorem tw14595076619807844096:True:=⟨⟩
theorem tw7093593434926217120:True:=⟨⟩
theorem tw6811860979676056480:True:=⟨⟩
theorem tw2604906779727419584:True:=⟨⟩
theorem tw7853448655233235968:True:=⟨⟩
theorem tw548065704350987552:True:=⟨⟩
theorem tw15911263845975312672:True:=⟨⟩
theorem tw7388309112516268384:True:=⟨⟩
theorem tw17925846562223664576:True:=⟨⟩
theorem tw11200563811327602112:True:=⟨⟩
theorem tw5573052623014261984:True:=⟨⟩
theorem tw9085086926727423520:True:=⟨⟩
theorem tw5582418210156000800:True:=⟨⟩
theorem tw2419166555833500992:True:=⟨⟩
theorem tw2594295475276076352:True:=⟨⟩
theorem tw2025186142958658267:True:=⟨⟩
theorem tw15845554167776823003:True:=⟨⟩
theorem tw789654022042472955:True:=⟨⟩
theorem tw310048573772185403:True:=⟨⟩
theorem tw10804818202739719771:True:=⟨⟩
theorem tw10949448207357981563:True:=⟨⟩
theorem tw78436668408331931:True:=⟨⟩
theorem tw7227798510576959131:True:=⟨⟩
theorem tw13956140931447751323:True:=⟨⟩
theorem tw15061152196389580443:True:=⟨⟩
theorem tw8136581245468063419:True:=⟨⟩
theorem tw2771772430383362747:True:=⟨⟩
theorem tw2215855869920019419:True:=⟨⟩
theorem tw9607014310752253691:True:=⟨⟩
theorem tw10339206822946269019:True:=⟨⟩
theorem tw3494980785058459547:True:=⟨⟩
theorem tw17624424758509735131:True:=⟨⟩
theorem tw3852774223845458139:True:=⟨⟩
theorem tw17824137628071834619:True:=⟨⟩
theorem tw14112809910389385499:True:=⟨⟩
theorem tw6355257060724358235:True:=⟨⟩
theorem tw16346993654144937339:True:=⟨⟩
theorem tw9224274040746141851:True:=⟨⟩
theorem tw15564312278525832379:True:=⟨⟩
theorem tw1199340226583090427:True:=⟨⟩
theorem tw1535994982132909595:True:=⟨⟩
theorem tw6243928303447163451:True:=⟨⟩
theorem tw2629493573100464699:True:=⟨⟩
theorem tw15763165634462561627:True:=⟨⟩
theorem tw11864737210725976754:True:=⟨⟩
theorem tw1608898356445011634:True:=⟨⟩
theorem tw5599003494690558962:True:=⟨⟩
theorem tw6690355539295545330:True:=⟨⟩
theorem tw17072269904940002066:True:=⟨⟩
theorem tw16362452461273162610:True:=⟨⟩
theorem tw3071587684163127442:True:=⟨⟩
theorem tw12339434590466240626:True:=⟨⟩
theorem tw15676797017478001778:True:=⟨⟩
theorem tw8811943420887613554:True:=⟨⟩
theorem tw3161006443377533138:True:=⟨⟩
theorem tw13265469743479732434:True:=⟨⟩
theorem tw10826763508562216146:True:=⟨⟩
theorem tw12319985397993221618:True:=⟨⟩
theorem tw13057949617860912402:True:=⟨⟩
theorem tw3751369277395539506:True:=⟨⟩
theorem tw2718374064770011602:True:=⟨⟩
theorem tw3548894971174452690:True:=⟨⟩
theorem tw422882360848776018:True:=⟨⟩
theorem tw13943361105254277970:True:=⟨⟩
theorem tw13935422039285489266:True:=⟨⟩
theorem tw15120265916059283346:True:=⟨⟩
theorem tw15794384245120874386:True:=⟨⟩
theorem tw7499447728789216146:True:=⟨⟩
theorem tw481520303816077385:True:=⟨⟩
end the_law
set_option Elab.async true in
set_option maxRecDepth 1000000 in
set_option maxHeartbeats 8000000 in
theorem the_law : PySem.Challenge.rw_rg0164_01.Holds := by
  w_on
  o_law
  k_head
  case hw => w_witness2
  refine law_of_run ?kb ?H rfl
  case kb =>
    intro p l ob
    refine ⟨⟨?exc, ?db, ?cd⟩, ⟨?a1, ?a2, ?a3, ?a4, ?a5, ?obj⟩, ?la, ?df⟩
    case exc =>
      constructor
      iterate 15 apply Exists.intro
      apply And.intro
      · exact rfl
      · exact rfl
    case db => exact ne80 (by kernel_rfl)
    case cd => exact ne80 (by kernel_rfl)
    case obj =>
      iterate 15 apply Exists.intro
      refine ⟨rfl, ?_⟩
      refine ⟨by kernel_rfl, rfl, rfl, rfl, rfl, rfl, rfl, rfl⟩
    all_goals kernel_rfl
  case H =>
    intro p l ob ns hk hn
    have hgen : ∀ (K : Frag), KF K → lstK K l = some (ns.map V.int) → Run (callF K 12 false 827 [.sta (.ref l)] [] []) (fun v _ => v = .bool true) (fun _ _ => False) := fun K F hk => VW.Internal.f_law F (n := 0) hk hn
    refine hgen _ ?_ hk
    constructor
    all_goals first | kernel_rfl | exact ⟨by kernel_rfl, by kernel_rfl⟩ | (intro _; intros; kernel_rfl)
end VS
end

set_option maxRecDepth 100000 in
set_option maxHeartbeats 8000000 in
theorem PySem.Challenge.cw_rg0164_01_holds : PySem.Challenge.rw_rg0164_01.Holds := by
  exact VS.the_law
