import PyProof.Rows.All
import Wide.All
import OpenK.AllK
import Wide.FinOn
import Lean
import PySem.Challenge.RW_on0142_01
set_option Elab.async false
set_option backward.match.sparseCases false
set_option linter.all false
set_option maxRecDepth 1000000
set_option maxHeartbeats 8000000
set_option genSizeOf false
set_option genInjectivity false
namespace Mine.Internal
open PySem PySem.W PySem.Calls PyProof.Rows
local macro_rules
 | `(⋯)=> `(by kernel_rfl)
abbrev qc:=@Option.some.inj
noncomputable abbrev qd:=@Bool.casesOn
noncomputable abbrev qe:=@Option.casesOn
abbrev qf:=@Nat.le_refl
abbrev qg:=@Nat.le_add_left
noncomputable abbrev qh:=@List.casesOn
abbrev qi:=@List.mem_cons_self
abbrev qj:=@List.mem_cons_of_mem
noncomputable abbrev qk:=@Nat.casesAuxOn
abbrev qm:=@Nat.zero_le
noncomputable abbrev qn:=@Prod.casesOn
abbrev qo:=@Nat.le_of_ble_eq_true
abbrev qp:=@Nat.not_lt_zero
abbrev qr:=@Nat.le_add_right
abbrev qt:=@Nat.eq_of_beq_eq_true
abbrev qu:=@Nat.add_le_add_left
abbrev qw:=@List.getElem?_eq_getElem
abbrev qx:=@List.getElem?_append_right
abbrev qy:=@Nat.lt_of_lt_of_le
abbrev qz:=@List.getElem?_append_left
abbrev qA:=@Nat.le_of_not_lt
abbrev qB:=@Nat.le_trans
abbrev qC:=@List.mem_of_getElem?
abbrev qD:=@Bool.false_ne_true
abbrev qE:=@Nat.lt_succ_self
abbrev qF:=@Nat.lt_of_succ_lt_succ
abbrev qG:=@Nat.lt_of_succ_lt
abbrev qH:=@Nat.le_of_eq
abbrev qI:=@Nat.zero_lt_of_lt
noncomputable abbrev qJ:=@Int.casesOn
abbrev qK:=@Nat.le_of_lt
abbrev qL:=@List.not_mem_nil
abbrev qM:=@Nat.le_succ
abbrev qN:=@Int.fmod_nonneg_of_pos
abbrev qO:=@Nat.le_of_lt_succ
abbrev qP:=@Nat.le_succ_of_le
abbrev qQ:=@Prod.mk.inj
abbrev qR:=@Nat.lt_or_ge
abbrev qS:=@Nat.succ_ne_zero
abbrev SP:=Shared→Prop
abbrev dU:=Value→SP
abbrev LV:=List Value
theorem nn{α:Type _}{x:α}{G:Prop}(e:(none:Option α)=some x):G:=Option.noConfusion rfl (heq_of_eq e)
theorem ns{α:Type _}{x:α}{G:Prop}(e:some x=(none:Option α)):G:=nn e.symm
theorem ft{G:Prop}(e:false=true):G:=absurd e qD
theorem tf{G:Prop}(e:true=false):G:=absurd e.symm qD
theorem oq{α β:Type _}{a c:α}{b d:β}(e:some (a,b)=some (c,d)):a=c∧b=d:=qQ (qc e)
theorem fG{a b:Nat}:a≤b+a:=qg ..
theorem mh{a b:Nat}:a≤a+b:=qr ..
theorem iR:a<a+1:=qE _
theorem pS:a≤a+1:=qM _
theorem rB:0<a+1:=Nat.zero_lt_succ _
theorem nz:0≤a:=qm _
theorem ms{α:Type _}{a:α}{l:List α}:a∈a::l:=.head _
theorem kI{α:Type _}{a b:α}{l:List α}:a∈b::a::l:=.tail _ (.head _)
theorem vV{a b c:Nat}(h:a≤b):a≤c+b:=qB h fG
theorem ntr{a b c:Nat}(h:a≤b):a≤b+c:=qB h mh
theorem Q9{a b c:Nat}(h:a+b≤c):a≤c:=qB mh h
theorem K0{a b c:Nat}(h:b+a≤c):a≤c:=qB fG h
noncomputable def cD{α β:Type}(o:Option α)(f:α→Option β):Option β:=match o with
 |some x=>f x
 |none=>none
noncomputable def fH{β:Type}(b:Bool)(x:Option β):Option β:=match b with
 |true=>x
 |false=>none
theorem aK{α β:Type}{o:Option α}{f:α→Option β}{r:β}{G:Prop}(e:cD o f=some r)(h:∀x,o=some x→f x=some r→G):G:=by
 induction o using qe with
 |none=>exact nn e
 |some x=>exact h x rfl e
theorem cQ{β:Type}{b:Bool}{x:Option β}{r:β}(e:fH b x=some r):b=true:=by induction b using qd with|true=>rfl|false=>exact nn e
theorem cW{β:Type}{b:Bool}{x:Option β}{r:β}(e:fH b x=some r):x=some r:=by induction b using qd with|true=>exact e|false=>exact nn e
noncomputable def mS{α:Type}(b:Bool)(x y:α):α:=match b with
 |true=>x
 |false=>y
theorem jh{α:Type}{b:Bool}{x y:Option α}{r:α}{G:Prop}(e:mS b x y=some r)(h1:b=true→x=some r→G)(h2:b=false→y=some r→G):G:=by
 induction b using qd with
 |true=>exact h1 rfl e
 |false=>exact h2 rfl e
inductive BI where
 |append|extend|pop|Iv|len|zM|abs|repr|Bk
noncomputable def BI.id:BI→String
 |.append=>"list.append"|.extend=>"list.extend"|.pop=>"list.pop"|.Iv=>"dict.get"|.len=>"len"|.zM=>"isinstance"|.abs=>"abs"|.repr=>"repr"|.Bk=>"dict.update"
inductive TY where
 |list|tuple|str|int|bool|range
noncomputable def TY.id:TY→String
 |.list=>"list"|.tuple=>"tuple"|.str=>"str"|.int=>"int"|.bool=>"bool"|.range=>"range"
set_option genCtorIdx false
inductive V where
 |none
 |bool (b:Bool)
 |int (i:Int)
 |str (s:Str)
 |bi (b:BI)
 |ty (t:TY)
 |top (a:Addr)
 |loc (k:Nat)
 |tup (vs:List V)
 |lst (vs:List V)
 |inst (C:Addr) (fs:List (Str×V))
 |fy (fs:List (Str×V))
 |vI (n:Nat)
 |jw (f:FuncData) (free:List (Str×V))
 |aL (v:Value)
 |num (i:Int)
 |nC (b:Bool)
inductive AO where
 |inst (C:Addr) (d:Nat)
 |list (pre:List Value) (vs:List V)
 |dict (fs:List (Str×V))
abbrev St:=List AO
abbrev IM:=Addr→Option Obj
def zN(f fd:FuncData):Prop:=
 fd.params=f.params∧fd.body=f.body∧fd.scope=f.scope∧fd.globals=mainGlobals∧fd.builtins=builtinsNs∧fd.defaults=.none∧fd.kwdefaults=.none∧fd.qualname=f.qualname
inductive fY (i:Int):Value→Prop
 |mk (t:Tok):fY i (.int i t)
inductive ou (s:Str):Value→Prop
 |mk (t:Tok):ou s (.str s t)
inductive iG (σ:Nat→Addr) (n₀ k:Nat):Value→Prop
 |mk (h:k<n₀):iG σ n₀ k (.ref (σ k))
inductive iV (I:IM) (R:List Value→Prop):Value→Prop
 |mk {a:Addr} {n:Nat} {xs:List Value} (h:I a=some {cls:=.type "tuple",data:=.seq xs.toArray n}) (r:R xs):iV I R (.ref a)
inductive mU (I:IM) (R:List Value→Prop):Value→Prop
 |mk {a:Addr} {n:Nat} {xs:List Value} (h:I a=some {cls:=.type "list",data:=.seq xs.toArray n}) (r:R xs):mU I R (.ref a)
inductive pV (I:IM) (C:Addr) (R:List DictEntry→Prop):Value→Prop
 |mk {a d:Addr} {n:Nat} {es:List DictEntry} (h:I a=some {cls:=.ref C,dict:=some d,data:=.plain}) (g:I d=some {cls:=.type "dict",data:=.dict es.toArray n}) (r:R es):pV I C R (.ref a)
inductive uJ (I:IM) (n:Nat):Value→Prop
 |mk {a:Addr} {t u v:Tok} (h:I a=some {cls:=.type "range",data:=.fields #[.int 0 t,.int (n:Int) u,.int 1 v]}):uJ I n (.ref a)
inductive tG (I:IM) (R:List DictEntry→Prop):Value→Prop
 |mk {a:Addr} {n:Nat} {es:List DictEntry} (hs:(a==sysModules)=false) (g:I a=some {cls:=.type "dict",data:=.dict es.toArray n}) (r:R es):tG I R (.ref a)
inductive rC (I:IM) (f:FuncData) (R:List (Str×Addr)→Prop):Value→Prop
 |mk {a:Addr} {o:Obj} {fd:FuncData} {c:Addr} {co:Obj} {vs:Array Value} {t:Tok} (h:I a=some o) (hc:o.cls=.type "function") (hd:o.data=.func fd) (hf:zN f fd)
   (Cm:fd.code=.ref c) (DO:I c=some co) (DP:co.data=.fields vs) (hq:vs[1]? =some (.str fd.qualname t)) (r:R fd.closure):rC I f R (.ref a)
inductive dP (A:Value→Prop) (B:List Value→Prop):List Value→Prop
 |mk {x:Value} {xs:List Value} (h:A x) (r:B xs):dP A B (x::xs)
inductive gh (P:Params) (n:Str) (A:Value→Prop) (B:List DictEntry→Prop):List DictEntry→Prop
 |mk {t:Tok} {x:Value} {xs:List DictEntry} (h:A x) (r:B xs):gh P n A B (⟨PyData.keyHash P n,.str n t,x⟩::xs)
inductive nD (I:IM) (n:Str) (A:Value→Prop) (B:List (Str×Addr)→Prop):List (Str×Addr)→Prop
 |mk {c:Addr} {x:Value} {co:Obj} {xs:List (Str×Addr)} (g:I c=some co) (gd:co.data=.cell (some x)) (h:A x) (r:B xs):nD I n A B ((n,c)::xs)
def f7(I I':IM):Prop:=∀b o,I b=some o→I' b=some o
section
variable{R:List Value→Prop}
theorem iV.imp(i:f7 I I')(f:∀xs,R xs→R' xs)(h:iV I R y):iV I' R' y:=by induction h using iV.casesOn with|mk h r=>exact .mk (i _ _ h) (f _ r)
theorem mU.imp(i:f7 I I')(f:∀xs,R xs→R' xs)(h:mU I R y):mU I' R' y:=by induction h using mU.casesOn with|mk h r=>exact .mk (i _ _ h) (f _ r)
theorem pV.imp(i:f7 I I')(f:∀xs,D xs→D' xs)(h:pV I C D y):pV I' C D' y:=by induction h using pV.casesOn with|mk h g r=>exact .mk (i _ _ h) (i _ _ g) (f _ r)
theorem tG.imp(i:f7 I I')(f:∀xs,D xs→D' xs)(h:tG I D y):tG I' D' y:=by induction h using tG.casesOn with|mk hs g r=>exact .mk hs (i _ _ g) (f _ r)
theorem uJ.imp(i:f7 I I')(h:uJ I n y):uJ I' n y:=by induction h using uJ.casesOn with|mk h=>exact .mk (i _ _ h)
theorem rC.imp{R R':List (Str×Addr)→Prop}(i:f7 I I')(f:∀xs,R xs→R' xs)(h:rC I fd R y):rC I' fd R' y:=by
 induction h using rC.casesOn with|mk h hc hd hf Cm DO DP hq r=>exact .mk (i _ _ h) hc hd hf Cm (i _ _ DO) DP hq (f _ r)
theorem dP.imp(a:∀y,A y→A' y)(f:∀xs,R xs→R' xs)(h:dP A R xs):dP A' R' xs:=by induction h using dP.casesOn with|mk h r=>exact .mk (a _ h) (f _ r)
theorem gh.imp(a:∀y,A y→A' y)(f:∀xs,D xs→D' xs)(h:gh P n A D xs):gh P n A' D' xs:=by induction h using gh.casesOn with|mk h r=>exact .mk (a _ h) (f _ r)
theorem nD.imp{R R':List (Str×Addr)→Prop}{xs:List (Str×Addr)}(i:f7 I I')(a:∀y,A y→A' y)(f:∀xs,R xs→R' xs)(h:nD I n A R xs):nD I' n A' R' xs:=by
 induction h using nD.casesOn with|mk g gd h r=>exact .mk (i _ _ g) gd (a _ h) (f _ r)
end
mutual
def aq(I:IM)(P:Params):(Nat→Addr)→Nat→V→Value→Prop
 |_,_,.none,y=>y=.none
 |_,_,.bool b,y=>y=.bool b
 |_,_,.int i,y=>fY i y
 |_,_,.str s,y=>ou s y
 |_,_,.bi b,y=>y=.builtin b.id
 |_,_,.ty t,y=>y=.type t.id
 |_,_,.top a,y=>y=.ref a
 |σ,n,.loc k,y=>iG σ n k y
 |σ,n,.tup vs,y=>iV I (aG I P σ n vs) y
 |_,_,.lst vs,y=>mU I (aG I P (fun _=>0) 0 vs) y
 |_,_,.inst C fs,y=>pV I C (bF I P (fun _=>0) 0 fs) y
 |_,_,.fy fs,y=>tG I (bF I P (fun _=>0) 0 fs) y
 |_,_,.vI n,y=>uJ I n y
 |σ,n,.jw f free,y=>rC I f (iW I P σ n free) y
 |_,_,.aL v,y=>y=v
 |_,_,.num i,y=>fY i y
 |_,_,.nC b,y=>y=.bool b
def aG(I:IM)(P:Params):(Nat→Addr)→Nat→List V→List Value→Prop
 |_,_,[],ys=>ys=[]
 |σ,n,v::vs,ys=>dP (aq I P σ n v) (aG I P σ n vs) ys
def bF(I:IM)(P:Params):(Nat→Addr)→Nat→List (Str×V)→List DictEntry→Prop
 |_,_,[],ys=>ys=[]
 |σ,n,q::vs,ys=>gh P q.1 (aq I P σ n q.2) (bF I P σ n vs) ys
def iW(I:IM)(P:Params):(Nat→Addr)→Nat→List (Str×V)→List (Str×Addr)→Prop
 |_,_,[],ys=>ys=[]
 |σ,n,q::vs,ys=>nD I q.1 (aq I P σ n q.2) (iW I P σ n vs) ys
end
section
variable{P:Params}
theorem aq.none:aq I P σ n₀ .none .none:=rfl
theorem aq.bool(b:Bool):aq I P σ n₀ (.bool b) (.bool b):=rfl
theorem aq.int(i:Int)(t:Tok):aq I P σ n₀ (.int i) (.int i t):=.mk t
theorem aq.str(s:Str)(t:Tok):aq I P σ n₀ (.str s) (.str s t):=.mk t
theorem aq.bi(b:BI):aq I P σ n₀ (.bi b) (.builtin b.id):=rfl
theorem aq.ty(t:TY):aq I P σ n₀ (.ty t) (.type t.id):=rfl
theorem aq.top(a:Addr):aq I P σ n₀ (.top a) (.ref a):=rfl
theorem aq.loc(k:Nat)(h:k<n₀):aq I P σ n₀ (.loc k) (.ref (σ k)):=.mk h
theorem aq.aL(v:Value):aq I P σ n₀ (.aL v) v:=rfl
theorem aq.num(i:Int)(t:Tok):aq I P σ n₀ (.num i) (.int i t):=.mk t
theorem aq.nC(b:Bool):aq I P σ n₀ (.nC b) (.bool b):=rfl
theorem aq.tup(h:I a=some {cls:=.type "tuple",data:=.seq xs.toArray n})(r:aG I P σ n₀ vs xs):aq I P σ n₀ (.tup vs) (.ref a):=.mk h r
theorem aq.lst(h:I a=some {cls:=.type "list",data:=.seq xs.toArray n})(r:aG I P (fun _=>0) 0 vs xs):aq I P σ n₀ (.lst vs) (.ref a):=.mk h r
theorem aq.inst(h:I a=some {cls:=.ref C,dict:=some d,data:=.plain})(g:I d=some {cls:=.type "dict",data:=.dict es.toArray n})(r:bF I P (fun _=>0) 0 fs es):aq I P σ n₀ (.inst C fs) (.ref a):=.mk h g r
theorem aq.vI(n:Nat)(h:I a=some {cls:=.type "range",data:=.fields #[.int 0 t,.int (n:Int) u,.int 1 v]}):aq I P σ n₀ (.vI n) (.ref a):=.mk h
theorem aq.fy(hs:(a==sysModules)=false)(g:I a=some {cls:=.type "dict",data:=.dict es.toArray n})(r:bF I P (fun _=>0) 0 fs es):aq I P σ n₀ (.fy fs) (.ref a):=.mk hs g r
theorem aq.jw(h:I a=some o)(hc:o.cls=.type "function")(hd:o.data=.func fd)(hf:zN f fd)(Cm:fd.code=.ref c)(DO:I c=some co)(DP:co.data=.fields vs)(hq:vs[1]? =some (.str fd.qualname t))
  (r:iW I P σ n₀ free fd.closure):aq I P σ n₀ (.jw f free) (.ref a):=.mk h hc hd hf Cm DO DP hq r
theorem aG.nil:aG I P σ n₀ [] []:=rfl
theorem aG.cons(h:aq I P σ n₀ v x)(r:aG I P σ n₀ vs xs):aG I P σ n₀ (v::vs) (x::xs):=.mk h r
theorem bF.nil:bF I P σ n₀ [] []:=rfl
theorem bF.cons(h:aq I P σ n₀ v x)(r:bF I P σ n₀ vs xs):bF I P σ n₀ ((n,v)::vs) (⟨PyData.keyHash P n,.str n t,x⟩::xs):=.mk h r
theorem iW.nil:iW I P σ n₀ [] []:=rfl
theorem iW.cons(g:I c=some co)(gd:co.data=.cell (some x))(h:aq I P σ n₀ v x)(r:iW I P σ n₀ vs xs):iW I P σ n₀ ((n,v)::vs) ((n,c)::xs):=.mk g gd h r
theorem aq.inv(h:aq I P σ n₀ v y):aq I P σ n₀ v y:=h
theorem aG.inv(h:aG I P σ n₀ vs ys):aG I P σ n₀ vs ys:=h
theorem bF.inv(h:bF I P σ n₀ vs ys):bF I P σ n₀ vs ys:=h
theorem iW.inv(h:iW I P σ n₀ vs ys):iW I P σ n₀ vs ys:=h
theorem tX(r:aq I P σ n₀ (.loc l) y):y=.ref (σ l)∧l<n₀:=by
 obtain⟨h⟩:=r;exact⟨rfl,h⟩
end
structure Le (I I':IM) (σ af:Nat→Addr) (n n':Nat):Prop where
 i:∀b o,I b=some o→I' b=some o
 s:∀k,k<n→af k=σ k
 n:n≤n'
theorem Le.refl(I:IM)(σ:Nat→Addr)(n:Nat):Le I I σ σ n n:=⟨fun _ _ e=>e,fun _ _=>rfl,qf _⟩
theorem Le.trans{σ af oz:Nat→Addr}{n n' ZW:Nat}(x:Le I I' σ af n n')(y:Le I' rF af oz n' ZW):Le I rF σ oz n ZW:=
 ⟨fun b o e=>y.i b o (x.i b o e),fun k h=>(y.s k (qy h x.n)).trans (x.s k h),qB x.n y.n⟩
theorem Le.zero(h:∀b o,I b=some o→I' b=some o){af:Nat→Addr}{n:Nat}:Le I I' (fun _=>0) af 0 n:=⟨h,fun _ q=>absurd q (qp _),qm _⟩
section
variable{P:Params}
theorem iG.imp(l:k<n→af k=σ k∧k<n')(h:iG σ n k y):iG af n' k y:=by
 induction h using iG.casesOn with|mk h=>exact(l h).1▸.mk (l h).2
theorem aq.mono(l:Le I I' σ af n n'){v:V}{x:Value}(h:aq I P σ n v x):aq I' P af n' v x:=
 V.rec (motive_1:=fun v=>∀σ n af n' x,Le I I' σ af n n'→aq I P σ n v x→aq I' P af n' v x) (motive_2:=fun v=>∀σ n af n' x,Le I I' σ af n n'→aG I P σ n v x→aG I' P af n' v x)
  (motive_3:=fun v=>∀σ n af n',Le I I' σ af n n'→(∀x,bF I P σ n v x→bF I' P af n' v x)∧∀x,iW I P σ n v x→iW I' P af n' v x) (motive_4:=fun v=>∀σ n af n' x,Le I I' σ af n n'→aq I P σ n v.2 x→aq I' P af n' v.2 x)
  (fun _ _ _ _ _ _ h=>h) (fun _ _ _ _ _ _ _ h=>h) (fun _ _ _ _ _ _ _ h=>h) (fun _ _ _ _ _ _ _ h=>h) (fun _ _ _ _ _ _ _ h=>h) (fun _ _ _ _ _ _ _ h=>h) (fun _ _ _ _ _ _ _ h=>h)
  (fun _ _ _ _ _ _ l h=>iG.imp (fun q=>⟨l.s _ q,qy q l.n⟩) h) (fun _ ih _ _ _ _ _ l h=>iV.imp l.i (fun _=>ih _ _ _ _ _ l) h) (fun _ ih _ _ _ _ _ l h=>mU.imp l.i (fun _=>ih _ _ _ _ _ (Le.zero l.i)) h)
  (fun _ _ ih _ _ _ _ _ l h=>pV.imp l.i (ih _ _ _ _ (Le.zero l.i)).1 h) (fun _ ih _ _ _ _ _ l h=>tG.imp l.i (ih _ _ _ _ (Le.zero l.i)).1 h) (fun _ _ _ _ _ _ l h=>uJ.imp l.i h) (fun _ _ ih _ _ _ _ _ l h=>rC.imp l.i (ih _ _ _ _ l).2 h)
  (fun _ _ _ _ _ _ _ h=>h) (fun _ _ _ _ _ _ _ h=>h) (fun _ _ _ _ _ _ _ h=>h)
  (fun _ _ _ _ _ _ h=>h) (fun _ _ a b _ _ _ _ _ l h=>dP.imp (fun _=>a _ _ _ _ _ l) (fun _=>b _ _ _ _ _ l) h) (fun _ _ _ _ _=>⟨fun _ h=>h,fun _ h=>h⟩)
  (fun _ _ a b _ _ _ _ l=>⟨fun _ h=>gh.imp (fun _=>a _ _ _ _ _ l) (b _ _ _ _ l).1 h,fun _ h=>nD.imp l.i (fun _=>a _ _ _ _ _ l) (b _ _ _ _ l).2 h⟩) (fun _ _ ih=>ih) v σ n af n' x l h
theorem aG.mono(l:Le I I' σ af n n'):∀{x:List Value},aG I P σ n v x→aG I' P af n' v x:=by
 induction v with
 |nil=>intro x h;replace h:=h.inv;subst h;exact .nil
 |cons a v ih=>intro x h;replace h:=h.inv;induction h using dP.casesOn with|mk h r=>exact .cons (h.mono l) (ih r)
theorem bF.mono(l:Le I I' σ af n n'):∀{x:List DictEntry},bF I P σ n v x→bF I' P af n' v x:=by
 induction v with
 |nil=>intro x h;replace h:=h.inv;subst h;exact .nil
 |cons a v ih=>intro x h;replace h:=h.inv;induction h using gh.casesOn with|mk h r=>exact .cons (h.mono l) (ih r)
theorem aG.up(r:aG I P (fun _=>0) 0 vs xs):aG I P σ n vs xs:=r.mono (Le.zero fun _ _ e=>e)
theorem bF.up(r:bF I P (fun _=>0) 0 vs xs):bF I P σ n vs xs:=r.mono (Le.zero fun _ _ e=>e)
theorem aq.up(r:aq I P (fun _=>0) 0 v x):aq I P σ n v x:=r.mono (Le.zero fun _ _ e=>e)
end
inductive dw (I:IM) (P:Params) (σ:Nat→Addr) (n:Nat):AO→Obj→Prop
 |inst (C:Addr) (d:Nat) (h:d<n):dw I P σ n (.inst C d) {cls:=.ref C,dict:=some (σ d),data:=.plain}
 |list {pre:List Value} {vs:List V} {xs:List Value} (ep:Nat) (hp:pre.length≤100000) (r:aG I P σ n vs xs):dw I P σ n (.list pre vs) {cls:=.type "list",data:=.seq (pre++xs).toArray ep}
 |dict {fs:List (Str×V)} {es:List DictEntry} (ep:Nat) (r:bF I P σ n fs es):dw I P σ n (.dict fs) {cls:=.type "dict",data:=.dict es.toArray ep}
inductive rG (σ:Nat→Addr) (n:Nat) (C:Addr) (d:Nat):Obj→Prop
 |mk (h:d<n):rG σ n C d {cls:=.ref C,dict:=some (σ d),data:=.plain}
inductive jZ (pre:List Value) (R:List Value→Prop):Obj→Prop
 |mk {xs:List Value} (ep:Nat) (hp:pre.length≤100000) (r:R xs):jZ pre R {cls:=.type "list",data:=.seq (pre++xs).toArray ep}
inductive kP (R:List DictEntry→Prop):Obj→Prop
 |mk {es:List DictEntry} (ep:Nat) (r:R es):kP R {cls:=.type "dict",data:=.dict es.toArray ep}
def Ra(I:IM)(P:Params)(σ:Nat→Addr)(n:Nat)(a:AO)(o:Obj):Prop:=match a with
 |.inst C d=>rG σ n C d o
 |.list pre vs=>jZ pre (aG I P σ n vs) o
 |.dict fs=>kP (bF I P σ n fs) o
theorem dw.inv(h:dw I P σ n a o):Ra I P σ n a o:=by
 induction h using dw.casesOn with
 |inst C d h=>exact .mk h
 |list ep hp r=>exact .mk ep hp r
 |dict ep r=>exact .mk ep r
theorem dw.mono(l:Le I I' σ af n n'):dw I P σ n v x→dw I' P af n' v x
 |.inst C d h=>l.s d h▸.inst C d (qy h l.n)
 |.list ep hp r=>.list ep hp (r.mono l)
 |.dict ep r=>.dict ep (r.mono l)
structure cG (P:Params) (I:IM) (σ:Nat→Addr) (st:St) (h:Heap):Prop where
 sub:∀b o,I b=some o→h.get? b=some o
 cells:∀k o,st[k]? =some o→∃ob,h.get? (σ k)=some ob∧dw I P σ st.length o ob
 inj:∀j k,j<st.length→k<st.length→σ j=σ k→j=k
 out:∀k,k<st.length→I (σ k)=none
structure aM (P:Params) (X:Addr→Prop) (I:IM) (σ:Nat→Addr) (n:Nat) (h:Heap) (I':IM) (af:Nat→Addr) (st':St) (h':Heap):Prop where
 le:Le I I' σ af n st'.length
 fresh:∀b o,I' b=some o→I b=some o∨h.get? b=none
 new:∀k,n≤k→k<st'.length→h.get? (af k)=none
 rel:cG P I' af st' h'
 keep:∀b o,h.get? b=some o→¬X b→(∀k,k<n→σ k≠b)→h'.get? b=some o
 alive:∀b o,h.get? b=some o→∃o',h'.get? b=some o'
theorem aM.refl{σ:Nat→Addr}{st:St}{h:Heap}(r:cG P I σ st h):aM P X I σ st.length h I σ st h:=
 ⟨Le.refl ..,fun _ _ e=>.inl e,fun _ a b=>absurd a (Nat.not_le.mpr b),r,fun _ _ e _ _=>e,fun _ o e=>⟨o,e⟩⟩
theorem aM.trans{X:Addr→Prop}{I I' rF:IM}{σ af oz:Nat→Addr}{n:Nat}{st' iH:St}{h h' La:Heap}
  (x:aM P X I σ n h I' af st' h')(y:aM P X I' af st'.length h' rF oz iH La):aM P X I σ n h rF oz iH La:=by
 have dead:∀b,h'.get? b=none→h.get? b=none:=fun b e=>by
  induction q:h.get? b using qe with
  |none=>rfl
  |some o=>obtain⟨o',z⟩:=x.alive b o q;rw[e]at z;exact nn z
 refine⟨x.le.trans y.le,fun b o e=> ?_,fun k a b=> ?_,y.rel,fun b o e hx hk=> ?_,fun b o e=> ?_⟩
 ·rcases y.fresh b o e with q|q
  ·exact x.fresh b o q
  ·exact .inr (dead b q)
 ·by_cases q:k<st'.length
  ·rw[y.le.s k q];exact x.new k a q
  ·exact dead _ (y.new k (qA q) b)
 ·refine y.keep b o (x.keep b o e hx hk) hx fun k nE=> ?_;by_cases q:k<n
  ·rw[x.le.s k q];exact hk k q
  ·intro z;have:=x.new k (qA q) nE;rw[z,e]at this;exact ns this
 ·obtain⟨o',z⟩:=x.alive b o e;exact y.alive b o' z
theorem aM.weaken
  (x:aM P X I σ n h I' af st' h')(hxy:∀b,X b→Y b):aM P Y I σ n h I' af st' h':=
 ⟨x.le,x.fresh,x.new,x.rel,fun b o e hy hk=>x.keep b o e (fun q=>hy (hxy b q)) hk,x.alive⟩
abbrev ai:=List (Str×V)
inductive Out where
 |next|brk|cont|ret (v:V)
abbrev cC:=(Out×ai)×St
inductive aA:Type→Type 1 where
 |ok {α:Type} (a:α):aA α
 |ask {α:Type} (d:Nat) (f:Addr) (args:List V) (st:St) (k:V→St→aA α):aA α
 |need {α:Type} (p:Prop) (r:aA α):aA α
 |fork {α:Type} (b:Bool) (k:Bool→aA α):aA α
 |pick {α:Type} (vs:List V) (i:Int) (k:V→aA α):aA α
 |loop {α:Type} (turn:V→ai→St→aA cC) (keep:ai→ai) (vs:List V) (m:ai) (st:St) (k:cC→aA α):aA α
 |bad {α:Type}:aA α
namespace aA
noncomputable def bind{α β:Type}:aA α→(α→aA β)→aA β
 |.ok a,f=>f a
 |.ask d g as st k,f=>.ask d g as st fun v st'=>(k v st').bind f
 |.need p r,f=>.need p (r.bind f)
 |.fork b k,f=>.fork b fun c=>(k c).bind f
 |.pick vs i k,f=>.pick vs i fun v=>(k v).bind f
 |.loop t kp vs m st k,f=>.loop t kp vs m st fun p=>(k p).bind f
 |.bad,_=>.bad
end aA
theorem aA.bind_assoc{α β γ:Type}(r:aA α)(f:α→aA β)(g:β→aA γ):(r.bind f).bind g=r.bind fun a=>(f a).bind g:=by
 induction r with
 |ok a=>rfl
 |bad=>rfl
 |ask d a as st k ih=>exact congrArg (aA.ask d a as st) (funext fun v=>funext fun st'=>ih v st' f)
 |need p r ih=>exact congrArg (aA.need p) (ih f)
 |fork b k ih=>exact congrArg (aA.fork b) (funext fun c=>ih c f)
 |pick vs i k ih=>exact congrArg (aA.pick vs i) (funext fun c=>ih c f)
 |loop t kp vs m st k _ ih=>exact congrArg (aA.loop t kp vs m st) (funext fun p=>ih p f)
abbrev Spec:=Nat→Addr→List V→St→(V→St→Prop)→Prop
def Good(S:Spec)(pre:Nat→Addr→List V→St→Prop):{α:Type}→aA α→(α→Prop)→Prop
 |_,.ok a,Q=>Q a
 |_,.ask d f as st k,Q=>∃W:V→St→Prop,S d f as st W∧∀v st',W v st'→Good S pre (k v st') Q
 |_,.need p r,Q=>p∧Good S pre r Q
 |_,.fork b k,Q=>Good S pre (k b) Q
 |_,.pick vs i k,Q=>∃j v,i=Int.ofNat j∧vs[j]? =some v∧vs.length<500∧Good S pre (k v) Q
 |_,.loop turn keep vs m st k,Q=>∃Inv:List V→ai→St→Prop,Inv vs m st∧
   (∀v rest m st,Inv (v::rest) m st→Good S pre (turn v m st) (fun p=>match p.1.1 with
    |.next=>Inv rest (keep p.1.2) p.2
    |.cont=>Inv rest (keep p.1.2) p.2
    |.brk=>Good S pre (k ((.next,p.1.2),p.2)) Q
    |.ret u=>Good S pre (k ((.ret u,p.1.2),p.2)) Q))∧
   ∀m st,Inv [] m st→Good S pre (k ((.next,m),st)) Q
 |_,.bad,_=>False
theorem Good.mono{S:Spec}{pre:Nat→Addr→List V→St→Prop}{α:Type}{r:aA α}:∀{Q Q':α→Prop},(∀a,Q a→Q' a)→Good S pre r Q→Good S pre r Q':=by
 induction r with
 |ok a=>exact fun h=>h a
 |bad=>exact fun _=>id
 |ask d f as st k ih=>exact fun h ⟨W,x1,x2⟩=>⟨W,x1,fun v st' hs=>ih v st' h (x2 v st' hs)⟩
 |need p r ih=>exact fun h x=>⟨x.1,ih h x.2⟩
 |fork b k ih=>exact fun h x=>ih b h x
 |pick vs i k ih=>exact fun h ⟨j,v,e,e1,e2,x⟩=>⟨j,v,e,e1,e2,ih v h x⟩
 |loop t kp vs m st k ZX yo=>
  rintro Q Q' h ⟨Inv,h0,h1,h2⟩;refine⟨Inv,h0,fun v rest m st hi=>ZX v m st (fun p hp=> ?_) (h1 v rest m st hi),fun m st hi=>yo _ h (h2 m st hi)⟩;obtain⟨⟨o,m'⟩,st'⟩:=p;induction o using Out.casesOn with
  |next=>exact hp
  |cont=>exact hp
  |brk=>exact yo _ h hp
  |ret u=>exact yo _ h hp
theorem m5{S:Spec}{pre:Nat→Addr→List V→St→Prop}{α β:Type}{r:aA α}:∀{f:α→aA β} {Q:β→Prop},Good S pre (r.bind f) Q↔Good S pre r fun a=>Good S pre (f a) Q:=by
 induction r with
 |ok a=>exact Iff.rfl
 |bad=>exact Iff.rfl
 |ask d g as st k ih=>exact fun{f Q}=>⟨(by rintro⟨W,x1,x2⟩;exact⟨W,x1,fun v st' hs=>(ih v st').mp (x2 v st' hs)⟩),(by rintro⟨W,x1,x2⟩;exact⟨W,x1,fun v st' hs=>(ih v st').mpr (x2 v st' hs)⟩)⟩
 |need p r ih=>exact fun{f Q}=>⟨fun x=>⟨x.1,ih.mp x.2⟩,fun x=>⟨x.1,ih.mpr x.2⟩⟩
 |fork b k ih=>exact fun{f Q}=>ih b
 |pick vs i k ih=>exact fun{f Q}=>⟨(by rintro⟨j,v,e,e1,e2,x⟩;exact⟨j,v,e,e1,e2,(ih v).mp x⟩),(by rintro⟨j,v,e,e1,e2,x⟩;exact⟨j,v,e,e1,e2,(ih v).mpr x⟩)⟩
 |loop t kp vs m st k ZX yo=>
  intro f Q
  constructor
  ·rintro⟨Inv,h0,h1,h2⟩;refine⟨Inv,h0,fun v rest m st hi=>Good.mono (fun p hp=> ?_) (h1 v rest m st hi),fun m st hi=>(yo _).mp (h2 m st hi)⟩;obtain⟨⟨o,m'⟩,st'⟩:=p;induction o using Out.casesOn with
   |next=>exact hp
   |cont=>exact hp
   |brk=>exact(yo _).mp hp
   |ret u=>exact(yo _).mp hp
  ·rintro⟨Inv,h0,h1,h2⟩;refine⟨Inv,h0,fun v rest m st hi=>Good.mono (fun p hp=> ?_) (h1 v rest m st hi),fun m st hi=>(yo _).mpr (h2 m st hi)⟩;obtain⟨⟨o,m'⟩,st'⟩:=p;induction o using Out.casesOn with
   |next=>exact hp
   |cont=>exact hp
   |brk=>exact(yo _).mpr hp
   |ret u=>exact(yo _).mpr hp
theorem Good.bind{S:Spec}{pre:Nat→Addr→List V→St→Prop}{α β:Type}{r:aA α}{f:α→aA β}{Q:β→Prop}:Good S pre (r.bind f) Q→Good S pre r fun a=>Good S pre (f a) Q:=m5.mp
noncomputable def uK(turn:V→ai→St→aA cC)(keep:ai→ai):List V→ai→St→aA cC
 |[],m,st=>.ok ((.next,m),st)
 |v::vs,m,st=>(turn v m st).bind fun p=>match p.1.1 with
  |.next=>uK turn keep vs (keep p.1.2) p.2
  |.cont=>uK turn keep vs (keep p.1.2) p.2
  |.brk=>.ok ((.next,p.1.2),p.2)
  |.ret u=>.ok ((.ret u,p.1.2),p.2)
theorem pW{S:Spec}{pre:Nat→Addr→List V→St→Prop}{α:Type}{turn:V→ai→St→aA cC}{keep:ai→ai}{vs:List V}{m:ai}{st:St}{k:cC→aA α}{Q:α→Prop}
  (g:Good S pre (.loop turn keep vs m st k) Q):Good S pre (uK turn keep vs m st) fun p=>Good S pre (k p) Q:=by
 obtain⟨Inv,h0,h1,h2⟩:=g;induction vs generalizing m st with
 |nil=>exact h2 m st h0
 |cons v vs ih=>
  refine(m5 (r:=turn v m st)).mpr (Good.mono (fun p hp=> ?_) (h1 v vs m st h0));obtain⟨⟨o,m'⟩,st'⟩:=p;induction o using Out.casesOn with
  |next=>exact ih hp
  |cont=>exact ih hp
  |brk=>exact hp
  |ret u=>exact hp
theorem ZY{S:Spec}{pre:Nat→Addr→List V→St→Prop}{α:Type}{turn:V→ai→St→aA cC}{keep:ai→ai}{vs:List V}{m:ai}{st:St}{k:cC→aA α}{Q:α→Prop}
  (g:Good S pre (uK turn keep vs m st) fun p=>Good S pre (k p) Q):Good S pre (.loop turn keep vs m st k) Q:=by
 refine⟨fun vs m st=>Good S pre (uK turn keep vs m st) fun p=>Good S pre (k p) Q,g,fun v rest m st hi=> ?_,fun m st hi=>hi⟩;have h:=Good.bind (show Good S pre ((turn v m st).bind _) _ from hi);refine Good.mono (fun p hp=> ?_) h;obtain⟨⟨o,m'⟩,st'⟩:=p;induction o using Out.casesOn with
 |next=>exact hp
 |cont=>exact hp
 |brk=>exact hp
 |ret u=>exact hp
noncomputable def Rb{α:Type}:Option α→aA α:=fun o=>match o with
 |some a=>.ok a
 |none=>.bad
theorem DQ{S:Spec}{pre:Nat→Addr→List V→St→Prop}{α:Type}{o:Option α}{Q:α→Prop}(g:Good S pre (Rb o) Q):∃a,o=some a∧Q a:=by
 induction o using qe with
 |none=>exact g.elim
 |some a=>exact⟨a,rfl,g⟩
noncomputable def seq(a b:Str):Bool:=Fast.sEq a b
theorem gz:seq a b=true↔a=b:=Fast.sEq_iff
theorem iD:seq a b=false↔a≠b:=by
 constructor
 ·intro h e;rw[gz.mpr e]at h;exact tf h
 ·intro h;induction q:seq a b using qd with
  |false=>rfl
  |true=>exact absurd (gz.mp q) h
noncomputable def lk{α:Type}(x:Str):List (Str×α)→Option α
 |[]=>none
 |p::l=>mS (seq x p.1) (some p.2) (lk x l)
theorem rH{α:Type}{x:Str}{p:Str×α}{l:List (Str×α)}(q:seq x p.1=true):lk x (p::l)=some p.2:=congrArg (mS · (some p.2) (lk x l)) q
theorem m7{α:Type}{x:Str}{p:Str×α}{l:List (Str×α)}(q:seq x p.1=false):lk x (p::l)=lk x l:=congrArg (mS · (some p.2) (lk x l)) q
theorem xB{α:Type}(x:Str)(l:List (Str×α)):lk x l=l.lookup x:=by
 induction l with
 |nil=>rfl
 |cons p l ih=>
  rw[List.lookup];induction q:seq x p.1 using qd with
  |true=>rw[rH q,show(x==p.1)=true from beq_iff_eq.mpr (gz.mp q)]
  |false=>rw[m7 q,show(x==p.1)=false from beq_eq_false_iff_ne.mpr (iD.mp q),ih]
noncomputable def put{α:Type}(x:Str)(v:α):List (Str×α)→List (Str×α)
 |[]=>[(x,v)]
 |p::l=>mS (seq x p.1) ((p.1,v)::l) (p::put x v l)
theorem xC{α:Type}{x:Str}{v:α}{p:Str×α}{l:List (Str×α)}(q:seq x p.1=true):put x v (p::l)=(p.1,v)::l:=congrArg (mS · _ _) q
theorem rI{α:Type}{x:Str}{v:α}{p:Str×α}{l:List (Str×α)}(q:seq x p.1=false):put x v (p::l)=p::put x v l:=congrArg (mS · ((p.1,v)::l) (p::put x v l)) q
theorem Vt{α:Type}(x y:Str)(v:α)(l:List (Str×α)):lk y (put x v l)=if y=x then some v else lk y l:=by
 induction l with
 |nil=>
  induction q:seq y x using qd with
  |true=>exact(rH (p:=(x,v)) q).trans (if_pos (gz.mp q)).symm
  |false=>exact(m7 (p:=(x,v)) q).trans (if_neg (iD.mp q)).symm
 |cons p l ih=>
  induction q:seq x p.1 using qd with
  |true=>
   rw[xC q];induction r:seq y p.1 using qd with
   |true=>rw[rH (p:=(p.1,v)) r,if_pos ((gz.mp r).trans (gz.mp q).symm)]
   |false=>rw[m7 (p:=(p.1,v)) r,m7 r,if_neg (fun z=>iD.mp r (z.trans (gz.mp q)))]
  |false=>
   rw[rI q];induction r:seq y p.1 using qd with
   |true=>rw[rH r,rH r,if_neg (fun z=>iD.mp q (z.symm.trans (gz.mp r)))]
   |false=>rw[m7 r,m7 r,ih]
set_option genInjectivity false in
structure FE where
 scope:Scope
 free:List (Str×V)
def Cn(I:IM)(a:Addr)(m:Str→Option Value):Prop:=∃o es ep,I a=some o∧o.data=.dict es ep∧StrKeys es∧∀name,nsFind es name=m name
theorem Cn.ns{I:IM}{h:Heap}(x:∀b o,I b=some o→h.get? b=some o)(n:Cn I a m):h.Ns a m:=
 (by obtain⟨o,es,ep,e,r⟩:=n;exact⟨o,es,ep,x _ _ e,r⟩)
theorem Cn.mono(x:∀b o,I b=some o→I' b=some o)(n:Cn I a m):Cn I' a m:=
 (by obtain⟨o,es,ep,e,r⟩:=n;exact⟨o,es,ep,x _ _ e,r⟩)
inductive AK where
 |plain
 |yZ (f:Addr)
set_option genInjectivity false in
structure DR where
 attrs:List (Addr×List (Str×AK))
 clsAt:List (Addr×List (Str×Addr))
 isin:List (Nat×Nat×Bool)
 tH:List Addr
 makes:List (Addr×Addr)
 keeps:List Addr
noncomputable def Iw(n:Nat):Value:=match n with
 |0=>.type "NoneType"
 |1=>.type "bool"
 |2=>.type "int"
 |3=>.type "str"
 |4=>.type "tuple"
 |5=>.type "list"
 |6=>.type "dict"
 |n+7=>.ref n
noncomputable def Iz(n:Nat):Value:=match n with
 |0=>.type "list"
 |1=>.type "tuple"
 |2=>.type "str"
 |3=>.type "int"
 |4=>.type "bool"
 |5=>.type "range"
 |n+6=>.ref n
noncomputable def Rc(K:Frag)(D:Addr):Bool:=
 plainGet K D "__class__"&&hasDictIn K D&&findIn K (.ref D) "__class__"==some (some (.builtin "object.__class__"))&&
 specialIn K (.builtin "object.__class__") "__get__"==some (some (.builtin "getset_descriptor.__get__"))&&takesIn K (.builtin "object.__class__")==some true&&mroIn K D (.type "object")==some true
noncomputable def Lb(K:Frag)(C f:Addr):Bool:=makesIn K C&&findIn K (.ref C) "__init__"==some (some (.ref f))&&typeIn K (.ref f)==some (.type "function")
noncomputable def vX(K:Frag)(C:Addr)(x:Str):AK→Bool
 |.plain=>plainGet K C x&&hasDictIn K C&&findIn K (.ref C) x==some none&&findIn K (.ref C) "__setattr__"==some (some (.builtin "object.__setattr__"))&&plainOver K C
 |.yZ f=>plainGet K C x&&findIn K (.ref C) x==some (some (.ref f))&&isFn K (.ref f)
noncomputable def Lc(o:Option CFound)(f:Addr):Bool:=match o with
 |some c=>match c with
  |.val v=>match v with
   |.ref g=>Nat.beq g f
   |_=>false
  |_=>false
 |none=>false
theorem Ld(h:Lc o f=true):o=some (.val (.ref f)):=by
 induction o using qe with
 |none=>exact ft h
 |some c=>induction c using CFound.casesOn with
  |val v=>induction v using Value.casesOn with
   |ref g=>rw[qt h]
   |_=>exact ft h
  |_=>exact ft h
noncomputable def GX(K:Frag)(C:Addr)(x:Str)(f:Addr):Bool:=
 readsIn K C (.type "type")&&specialIn K (.ref C) "__getattribute__"==some (some (.builtin "type.__getattribute__"))&&
 Lc (findCls K (.ref C) (.type "type") x) f
structure tY (K:Frag) (T:DR):Prop where
 attrs:(T.attrs.all fun p=>p.2.all fun q=>vX K p.1 q.1 q.2)=true
 clsAt:(T.clsAt.all fun p=>p.2.all fun q=>GX K p.1 q.1 q.2)=true
 isin:(T.isin.all fun p=>kitOne K (Iw p.1) (Iz p.2.1)==some p.2.2)=true
 tH:(T.tH.all fun D=>Rc K D)=true
 makes:(T.makes.all fun p=>Lb K p.1 p.2)=true
 keeps:(T.keeps.all fun a=>keepIn K (.ref a))=true
set_option genInjectivity false in
structure Tab where
 glob:List (Str×V)
 fns:List (Addr×FuncData×List V)
 asks:List Addr
 K:Frag
 T:DR
set_option genInjectivity false in
structure Cx where
 prog:Program
 w:World
 S:Spec
 pre:Nat→Addr→List V→St→Prop
 tab:Tab
structure FnAt (I:IM) (P:Params) (a:Addr) (fd:FuncData) (ds:List V):Prop where
 at_:∃o,I a=some o∧o.cls=.type "function"∧o.data=.func fd
 code:∃c co vs t,fd.code=.ref c∧I c=some co∧co.data=.fields vs∧vs[1]? =some (.str fd.qualname t)
 glob:fd.globals=mainGlobals
 blt:fd.builtins=builtinsNs
 jw:fd.closure=[]
 GY:(fd.defaults=.none∧ds=[])∨∃T n xs,fd.defaults=.ref T∧I T=some {cls:=.type "tuple",data:=.seq xs.toArray n}∧aG I P (fun _=>0) 0 ds xs∧ds≠[]
structure iI (cx:Cx) (I:IM):Prop where
 glob:∃mg mb,Cn I mainGlobals mg∧Cn I builtinsNs mb∧∀x v,lk x cx.tab.glob=some v→
  ∃y,(mg x=some y∨(mg x=none∧mb x=some y))∧aq I cx.w.params (fun _=>0) 0 v y
 lim:∃mc,Cn I cStatics mc∧mc "sys.recursionlimit"=none
 fns:∀a fd ds,(a,fd,ds)∈cx.tab.fns→FnAt I cx.w.params a fd ds
 K:∀a o,cx.tab.K.lookup a=some o→I a=some o
 tabs:tY cx.tab.K cx.tab.T
 tK:∃o,I sysModules=some o
theorem FnAt.mono(x:∀b o,I b=some o→I' b=some o)(f:FnAt I P a fd ds):FnAt I' P a fd ds:=
 let⟨⟨o,h1,h2⟩,⟨c,co,vs,t,g1,g2,g3⟩,gl,bl,cl,df⟩:=f
 ⟨⟨o,x _ _ h1,h2⟩,⟨c,co,vs,t,g1,x _ _ g2,g3⟩,gl,bl,cl,df.imp id (by rintro⟨T,n,xs,e1,e2,e3,e4⟩;exact⟨T,n,xs,e1,x _ _ e2,e3.mono ⟨x,fun _ q=>absurd q (qp _),qf _⟩,e4⟩)⟩
theorem iI.mono(x:∀b o,I b=some o→I' b=some o)(b:iI cx I):iI cx I':=
 ⟨(by obtain⟨mg,mb,h1,h2,h3⟩:=b.glob;exact⟨mg,mb,h1.mono x,h2.mono x,fun y v e=>(by obtain⟨z,a,r⟩:=h3 y v e;exact⟨z,a,r.mono ⟨x,fun _ q=>absurd q (qp _),qf _⟩⟩)⟩),
  (by obtain⟨mc,h1,h2⟩:=b.lim;exact⟨mc,h1.mono x,h2⟩),fun a fd ds m=>(b.fns a fd ds m).mono x,fun a o e=>x _ _ (b.K a o e),b.tabs,(by obtain⟨o,e⟩:=b.tK;exact⟨o,x _ _ e⟩)⟩
theorem iI.limit{I:IM}{h:Heap}(b:iI cx I)(x:∀b o,I b=some o→h.get? b=some o):h.NoLimit:=
 (by obtain⟨mc,h1,h2⟩:=b.lim;exact⟨mc,h1.ns x,h2⟩)
theorem iI.zO(b:iI cx I)(x:∀b o,I b=some o→h.get? b=some o):cx.tab.K.In h:=fun a o e=>x _ _ (b.K a o e)
def aF(env:Env)(b:Addr):Prop:=b=env.locals∨∃x,env.kindOf x=some .cell∧env.cells.lookup x=some b
structure av (P:Params) (fe:FE) (m:ai) (env:Env) (I:IM) (σ:Nat→Addr) (n:Nat) (h:Heap):Prop where
 scope:env.scope=fe.scope
 kind:fe.scope.kind=.function
 glob:env.globals=mainGlobals
 blt:env.builtins=builtinsNs
 ns:∃mm,h.Ns env.locals mm∧∀x v,lk x m=some v→env.kindOf x=some .local→∃y,mm x=some y∧aq I P σ n v y
 cell:∀x v,lk x m=some v→env.kindOf x=some .cell→∃c y,env.cells.lookup x=some c∧h.IsCell c (some y)∧aq I P σ n v y
 there:∀x,env.kindOf x=some .cell→∃c v,env.cells.lookup x=some c∧h.IsCell c v
 free:∀x v,lk x fe.free=some v→env.kindOf x=some .free→∃c y,env.cells.lookup x=some c∧h.IsCell c (some y)∧aq I P σ n v y∧¬aF env c∧∀k,k<n→σ k≠c
 apart:∀b,aF env b→I b=none∧∀k,k<n→σ k≠b
 ne:∀x c,env.kindOf x=some .cell→env.cells.lookup x=some c→c≠env.locals
 inj:∀x y c,env.kindOf x=some .cell→env.kindOf y=some .cell→env.cells.lookup x=some c→env.cells.lookup y=some c→x=y
theorem f9{h h':Heap}(x:h.IsCell c v)(k:∀o,h.get? c=some o→h'.get? c=some o):h'.IsCell c v:=by
 obtain⟨o,ho,hd⟩:=x;exact⟨o,k o ho,hd⟩
theorem av.ext{P:Params}{fe:FE}{m:ai}{env:Env}(l:av P fe m env I σ n h)
  (x:aM P (fun _=>False) I σ n h I' af st' h'):av P fe m env I' af st'.length h':=by
 have kp:∀b o,h.get? b=some o→(∀k,k<n→σ k≠b)→h'.get? b=some o:=fun b o e q=>x.keep b o e (fun f=>f) q;have own:∀b,aF env b→∀o,h.get? b=some o→h'.get? b=some o:=fun b ob o e=>kp b o e (l.apart b ob).2;have live:∀b,aF env b→∃o,h.get? b=some o:=by
  rintro b (rfl|⟨y,hy,hc⟩)
  ·obtain⟨mm,⟨o,_,_,ho,_⟩,_⟩:=l.ns;exact⟨o,ho⟩
  ·obtain⟨c,v,h1,o,ho,_⟩:=l.there y hy;rw[hc]at h1;obtain rfl:=qc h1;exact⟨o,ho⟩
 have zP:∀b o,h.get? b=some o→(∀k,k<n→σ k≠b)→∀k,k<st'.length→af k≠b:=fun b o hb hk k nE=>by
  by_cases q:k<n
  ·rw[x.le.s k q];exact hk k q
  ·intro z;have:=x.new k (qA q) nE;rw[z,hb]at this;cases this
 refine⟨l.scope,l.kind,l.glob,l.blt, ?_,fun y v e hk=> ?_,fun y hk=> ?_,fun y v e hk=> ?_,fun b hb=>⟨?_,(by obtain⟨o,ho⟩:=live b hb;exact zP b o ho (l.apart b hb).2)⟩,l.ne,l.inj⟩
 ·obtain⟨mm,⟨o,es,ep,ho,r⟩,h2⟩:=l.ns;exact⟨mm,⟨o,es,ep,own _ (.inl rfl) o ho,r⟩,fun y v e hk=>(by obtain⟨z,a,b⟩:=h2 y v e hk;exact⟨z,a,b.mono x.le⟩)⟩
 ·obtain⟨c,z,h1,h2,h3⟩:=l.cell y v e hk;exact⟨c,z,h1,f9 h2 (own c (.inr ⟨y,hk,h1⟩)),h3.mono x.le⟩
 ·obtain⟨c,z,h1,h2⟩:=l.there y hk;exact⟨c,z,h1,f9 h2 (own c (.inr ⟨y,hk,h1⟩))⟩
 ·obtain⟨c,z,h1,h2,h3,h4,h5⟩:=l.free y v e hk;have hc:=h2;obtain⟨o,ho,_⟩:=hc;exact⟨c,z,h1,f9 h2 (fun o e=>kp c o e h5),h3.mono x.le,h4,zP c o ho h5⟩
 ·induction q:I' b using qe with
  |none=>rfl
  |some o=>
   rcases x.fresh b o q with z|z
   ·rw[(l.apart b hb).1]at z;exact nn z
   ·obtain⟨o',ho⟩:=live b hb;rw[z]at ho;exact nn ho
def bw(s s':Shared):Prop:=s'.gens=s.gens∧s'.drawn=s.drawn∧s'.os=s.os
theorem bw.refl(s:Shared):bw s s:=⟨rfl,rfl,rfl⟩
theorem bw.trans(x:bw s s')(y:bw s' vY):bw s vY:=⟨y.1.trans x.1,y.2.1.trans x.2.1,y.2.2.trans x.2.2⟩
structure sH (k:Nat) (A:Around):Prop where
 depth:A.depth+2*k<recursionLimit
 units:A.units+12*k<cLine
 handled:A.handled=none
 guards:A.guards=some []
theorem sH.le(f:sH k A)(h:j≤k):sH j A:=⟨by have:=f.depth;lia,by have:=f.units;lia,f.handled,f.guards⟩
section
variable{P:Params}{st:St}
theorem cG.live(r:cG P I σ st h)(hk:k<st.length):∃o,h.get? (σ k)=some o:=by
 obtain⟨ob,h1,_⟩:=r.cells k st[k] (qw hk);exact⟨ob,h1⟩
theorem cG.pX(r:cG P I σ st h)(ha:h.get? a=none):I a=none:=by
 induction q:I a using qe with
 |none=>rfl
 |some o=>have:=r.sub a o q;rw[ha]at this;exact nn this
theorem dD(h:Heap):h.get? h.objs.size=none:=by
 induction q:h.get? h.objs.size using qe with
 |none=>rfl
 |some o=>exact absurd (Heap.lt_size q) (Nat.lt_irrefl _)
theorem cG.OJ(r:cG P I σ st h):I h.objs.size=none:=r.pX (dD h)
theorem aM.grow(r:cG P I σ st h)(k:∀b o,h.get? b=some o→h'.get? b=some o):aM P (fun _=>False) I σ st.length h I σ st h':=
 ⟨Le.refl ..,fun _ _ e=>.inl e,fun _ a b=>absurd a (Nat.not_le.mpr b),
  ⟨fun b x e=>k _ _ (r.sub b x e),fun j x e=>(by obtain⟨ob,h1,h2⟩:=r.cells j x e;exact⟨ob,k _ _ h1,h2⟩),r.inj,r.out⟩,
  fun b o e _ _=>k b o e,fun b o e=>⟨o,k b o e⟩⟩
theorem aM.Rf(r:cG P I σ st h)(o:Obj):aM P (fun _=>False) I σ st.length h I σ st (h.push o):=aM.grow r fun _ _ e=>Heap.get?_push_of_some _ e
noncomputable def dW(I:IM)(a:Addr)(o:Obj):IM:=fun b=>if b=a then some o else I b
theorem kQ(I:IM)(a:Addr)(o:Obj):dW I a o a=some o:=if_pos rfl
theorem lI(o:Obj)(ha:I a=none):∀b x,I b=some x→dW I a o b=some x:=fun b x e=>by
 unfold dW;by_cases q:b=a
 ·subst q;rw[ha]at e;exact nn e
 ·rw[if_neg q];exact e
theorem eU(e:dW I a o b=some x):(b=a∧x=o)∨(b≠a∧I b=some x):=by
 unfold dW at e;by_cases q:b=a
 ·rw[if_pos q]at e;obtain rfl:=qc e;exact .inl ⟨q,rfl⟩
 ·rw[if_neg q]at e;exact .inr ⟨q,e⟩
theorem aM.DS(r:cG P I σ st h)(k:∀b o,h.get? b=some o→h'.get? b=some o)(ha:h.get? a=none)(g:h'.get? a=some o):aM P (fun _=>False) I σ st.length h (dW I a o) σ st h':=by
 have le:=lI o (r.pX ha);refine⟨⟨le,fun _ _=>rfl,qf _⟩,fun b x e=> ?_,fun _ a b=>absurd a (Nat.not_le.mpr b),
  ⟨fun b x e=> ?_,fun j x e=>(by obtain⟨ob,h1,h2⟩:=r.cells j x e;exact⟨ob,k _ _ h1,h2.mono ⟨le,fun _ _=>rfl,qf _⟩⟩),r.inj,fun j hj=> ?_⟩,
  fun b o e _ _=>k b o e,fun b o e=>⟨o,k b o e⟩⟩
 ·rcases eU e with⟨rfl,_⟩|⟨_,q⟩
  ·exact .inr ha
  ·exact .inl q
 ·rcases eU e with⟨rfl,rfl⟩|⟨_,q⟩
  ·exact g
  ·exact k _ _ (r.sub b x q)
 ·unfold dW;rw[if_neg]
  ·exact r.out j hj
  ·rintro z;obtain⟨o',ho⟩:=r.live hj;rw[z,ha]at ho;exact nn ho
theorem aM.Y0(r:cG P I σ st h)(ho:o.isFreed=false):aM P (fun _=>False) I σ st.length h (dW I h.objs.size o) σ st (h.push o):=
 aM.DS r (fun _ _ e=>Heap.get?_push_of_some _ e) (dD h) (Heap.get?_push_size _ ho)
noncomputable def gj(σ:Nat→Addr)(n:Nat)(a:Addr):Nat→Addr:=fun k=>if k=n then a else σ k
theorem eG(σ:Nat→Addr)(n:Nat)(a:Addr):gj σ n a n=a:=if_pos rfl
theorem jx(a:Addr)(h:k<n):gj σ n a k=σ k:=if_neg (Nat.ne_of_lt h)
theorem Bl(I:IM)(σ:Nat→Addr)(n:Nat)(a:Addr):Le I I σ (gj σ n a) n (n+1):=⟨fun _ _ e=>e,fun _ h=>jx a h,qM _⟩
theorem aM.Bm(r:cG P I σ st h)(kp:∀b o,h.get? b=some o→h'.get? b=some o)(ha:h.get? a=none)(g:h'.get? a=some o)(hr:dw I P (gj σ st.length a) (st.length+1) ao o):
  aM P (fun _=>False) I σ st.length h I (gj σ st.length a) (st++[ao]) h':=by
 have ln:(st++[ao]).length=st.length+1:=by exact List.length_append
 have ne:∀j,j<st.length→σ j≠a:=fun j hj z=>by
  obtain⟨o',ho⟩:=r.live hj;rw[z,ha]at ho;exact nn ho
 refine⟨ln▸Bl ..,fun _ _ e=>.inl e,fun k a b=> ?_,⟨fun b x e=>kp _ _ (r.sub b x e),fun k x e=> ?_,fun j k hj hk e=> ?_,fun k hk=> ?_⟩,
  fun b o e _ _=>kp b o e,fun b o e=>⟨o,kp b o e⟩⟩
 ·rw[ln]at b;have:k=st.length:=by lia
  subst this;rw[eG];exact ha
 ·rw[ln];by_cases q:k<st.length
  ·rw[qz q]at e;obtain⟨ob,h1,h2⟩:=r.cells k x e;exact⟨ob,by rw[jx _ q];exact kp _ _ h1,h2.mono (Bl ..)⟩
  ·have hk:k<(st++[ao]).length:=(List.getElem?_eq_some_iff.mp e).1;rw[ln]at hk;have:k=st.length:=by lia
   subst this;rw[qx (qf _),Nat.sub_self]at e;obtain rfl:=qc e;exact⟨o,by rw[eG];exact g,hr⟩
 ·rw[ln]at hj hk;by_cases p:j<st.length
  ·by_cases q:k<st.length
   ·rw[jx _ p,jx _ q]at e;exact r.inj j k p q e
   ·have:k=st.length:=by lia
    subst this;rw[jx _ p,eG]at e;exact absurd e (ne j p)
  ·have:j=st.length:=by lia
   subst this;by_cases q:k<st.length
   ·rw[jx _ q,eG]at e;exact absurd e.symm (ne k q)
   ·lia
 ·rw[ln]at hk;by_cases q:k<st.length
  ·rw[jx _ q];exact r.out k q
  ·have:k=st.length:=by lia
   subst this;rw[eG];exact r.pX ha
theorem aM.zQ(r:cG P I σ st h)(ho:o.isFreed=false)(hr:dw I P (gj σ st.length h.objs.size) (st.length+1) ao o):
  aM P (fun _=>False) I σ st.length h I (gj σ st.length h.objs.size) (st++[ao]) (h.push o):=
 aM.Bm r (fun _ _ e=>Heap.get?_push_of_some _ e) (dD h) (Heap.get?_push_size _ ho) hr
theorem aM.upd(r:cG P I σ st h)(hk:k<st.length)(hb:h.get? (σ k)=some ob)(hf:(f ob).isFreed=false)(hr:dw I P σ st.length ao (f ob)):
  aM P (fun _=>False) I σ st.length h I σ (st.set k ao) (h.update (σ k) f):=by
 have ln:(st.set k ao).length=st.length:=by simp
 have ne:∀b,b≠σ k→(h.update (σ k) f).get? b=h.get? b:=fun b hb=>Heap.get?_update_other h f (Ne.symm hb);have io:∀b x,I b=some x→b≠σ k:=fun b x e q=>by rw[q,r.out k hk]at e;exact nn e
 refine⟨ln▸Le.refl ..,fun _ _ e=>.inl e,fun j a b=>absurd a (Nat.not_le.mpr (ln▸b)),⟨fun b x e=>(ne b (io b x e)).trans (r.sub b x e),fun j x e=> ?_,fun i j hi hj e=>r.inj i j (ln▸hi) (ln▸hj) e,fun j hj=>r.out j (ln▸hj)⟩,
  fun b x e _ q=>(ne b (fun z=>q k hk z.symm)).trans e,fun b o e=> ?_⟩
 ·rw[ln];rw[List.getElem?_set]at e;by_cases q:k=j
  ·subst q;rw[if_pos rfl,if_pos hk]at e;obtain rfl:=qc e;exact⟨f ob,Heap.get?_update_self f hb hf,hr⟩
  ·rw[if_neg q]at e;obtain⟨oj,h1,h2⟩:=r.cells j x e;have hj:j<st.length:=(List.getElem?_eq_some_iff.mp e).1;exact⟨oj,(ne _ fun z=>q (r.inj j k hj hk z).symm).trans h1,h2⟩
 ·by_cases q:b=σ k
  ·exact⟨f ob,by rw[q];exact Heap.get?_update_self f hb hf⟩
  ·exact⟨o,(ne b q).trans e⟩
theorem aM.own(r:cG P I σ st h)(ha:I a=none)(hs:∀k,k<st.length→σ k≠a)(e:Heap.SameBut a h h')(ho:h'.get? a=some o'):aM P (fun b=>b=a) I σ st.length h I σ st h':=by
 have io:∀b x,I b=some x→b≠a:=fun b x e q=>by rw[q,ha]at e;exact nn e
 refine⟨Le.refl ..,fun _ _ e=>.inl e,fun _ a b=>absurd a (Nat.not_le.mpr b),
  ⟨fun b x q=>(e.2 b (io b x q)).trans (r.sub b x q),fun j x q=>(by obtain⟨oj,h1,h2⟩:=r.cells j x q;exact⟨oj,(e.2 _ (hs j (List.getElem?_eq_some_iff.mp q).1)).trans h1,h2⟩),r.inj,r.out⟩,
  fun b x q hx _=>(e.2 b hx).trans q,fun b o q=> ?_⟩
 by_cases z:b=a
 ·exact⟨o',by rw[z];exact ho⟩
 ·exact⟨o,(e.2 b z).trans q⟩
end
section
variable(cx:Cx)
noncomputable abbrev Cx.M:Model:=model cx.prog cx.w
noncomputable abbrev Cx.P:Params:=cx.w.params
structure au (k:Nat) (A:Around) (I:IM) (σ:Nat→Addr) (st:St) (s:Shared):Prop where
 fit:sH k A
 base:iI cx I
 rel:cG cx.P I σ st s.heap
end
def Ends{β α:Type}(cx:Cx)(X:Addr→Prop)(I:IM)(σ:Nat→Addr)(n:Nat)(s:Shared)(R:IM→(Nat→Addr)→St→β→α→SP)(Q:α→SP):β×St→Prop:=
 fun p=>∀I' af y s',aM cx.P X I σ n s.heap I' af p.2 s'.heap→bw s s'→R I' af p.2 p.1 y s'→Q y s'
noncomputable abbrev RV(cx:Cx):IM→(Nat→Addr)→St→V→dU:=fun I σ st v y _=>aq I cx.P σ st.length v y
theorem au.go{σ af:Nat→Addr}{st st':St}{s s':Shared}{X:Addr→Prop}(H:au cx k A I σ st s)(x:aM cx.P X I σ st.length s.heap I' af st' s'.heap):au cx k A I' af st' s':=
 ⟨H.fit,H.base.mono x.le.i,x.rel⟩
theorem Ends.into{β α:Type}{cx:Cx}{X:Addr→Prop}{I I':IM}{σ af:Nat→Addr}{n:Nat}{s s':Shared}{st':St}{R:IM→(Nat→Addr)→St→β→α→SP}{Q:α→SP}{p:β×St}
  (e:Ends cx X I σ n s R Q p)(x:aM cx.P X I σ n s.heap I' af st' s'.heap)(y:bw s s'):Ends cx X I' af st'.length s' R Q p:=
 fun rF oz v vY a b c=>e rF oz v vY (x.trans a) (y.trans b) c
noncomputable def Bo(cx:Cx)(fe:FE)(m:ai)(x:Str):Option V:=
 match lk x fe.scope.names with
 |some .local=>lk x m
 |some .cell=>lk x m
 |some .free=>match seq x "__classdict__"with
  |true=>none
  |false=>lk x fe.free
 |some .globalImplicit=>lk x cx.tab.glob
 |_=>none
theorem vZ(l:av P fe m env I σ n h)(x:Str):env.kindOf x=lk x fe.scope.names:=by
 unfold Env.kindOf;rw[l.scope,xB]
section
variable{st:St}{env:Env}
theorem Lf(H:au cx k A I σ st s)(l:av cx.P fe m env I σ st.length s.heap)(e:Bo cx fe m x=some v)
  (h:∀y,aq I cx.P σ st.length v y→Q y s):wpAny cx.M A (loadName env x) Q E s:=by
 have hk:env.scope.kind=.function:=by rw[l.scope];exact l.kind
 have kx:=vZ l x;rw[Bo]at e;induction q:lk x fe.scope.names using qe with
 |none=>rw[q]at e;exact nn e
 |some kk=>
  rw[q]at e kx;induction kk using PySem.NameKind.casesOn with
  |«local»=>exact let⟨mm,hn,hm⟩:=l.ns;let⟨y,hy,r⟩:=hm x v e kx;wpAny_loadName_local hk kx hn hy (h y r)
  |cell=>exact let⟨c,y,hc,hy,r⟩:=l.cell x v e kx;wpAny_loadName_cell hk kx hc hy (h y r)
  |free=>
   dsimp only at e;induction ne:seq x "__classdict__"using qd with
   |true=>rw[ne]at e;exact nn e
   |false=>rw[ne]at e;exact let⟨c,y,hc,hy,r,_⟩:=l.free x v e kx;wpAny_loadName_free hk kx hc hy (h y r) (beq_eq_false_iff_ne.mpr (iD.mp ne))
  |globalImplicit=>
   obtain⟨mg,mb,g1,g2,g3⟩:=H.base.glob;obtain⟨y,hy,r⟩:=g3 x v e;have r':=h y (r.mono (Le.zero fun _ _ e=>e));have g1:=g1.ns H.rel.sub;rw[←l.glob]at g1;rw[loadName_read hk kx];rcases hy with hy|⟨h1,h2⟩
   ·exact loadGlobal_global g1 hy r'
   ·exact loadGlobal_builtin g1 h1 (by rw[l.blt];exact g2.ns H.rel.sub) h2 r'
  |_=>exact nn e
noncomputable def rJ(fe:FE)(x:Str):Bool:=match lk x fe.scope.names with
 |some .local=>true
 |some .cell=>true
 |_=>false
theorem Lg(hk:env.scope.kind=.function):(env.scope.kind==.class||(env.scope.kind==.module&&env.locals !=env.globals))=false:=by rw[hk];rfl
theorem zR(hz:lk z (put x v m)=some u):(z=x∧v=u)∨(z≠x∧lk z m=some u):=by
 rw[Vt]at hz;by_cases q:z=x
 ·rw[if_pos q]at hz;exact .inl ⟨q,qc hz⟩
 ·rw[if_neg q]at hz;exact .inr ⟨q,hz⟩
theorem yp(H:au cx k A I σ st s)(l:av cx.P fe m env I σ st.length s.heap)(e:lk x fe.scope.names=some .local)
  (r:aq I cx.P σ st.length v y)
  (h:∀s',aM cx.P (fun b=>b=env.locals) I σ st.length s.heap I σ st s'.heap→bw s s'→av cx.P fe (put x v m) env I σ st.length s'.heap→Q () s'):
  wpAny cx.M A (storeName env x y) Q E s:=by
 have kx:=(vZ l x).trans e;obtain⟨mm,hn,hm⟩:=l.ns;refine wpAny_storeName_local kx hn (fun h' kR hs=> ?_) (Lg (by rw[l.scope];exact l.kind));have ap:=l.apart env.locals (.inl rfl);have kp:∀{c:Addr} {w:Option Value},c≠env.locals→s.heap.IsCell c w→h'.IsCell c w:=fun hc h=>f9 h fun o e=>(hs.2 _ hc).trans e;refine h {s with heap:=h',toks:=s.toks+1} (aM.own H.rel ap.1 ap.2 hs kR.choose_spec.choose_spec.choose_spec.1) ⟨rfl,rfl,rfl⟩
  ⟨l.scope,l.kind,l.glob,l.blt,⟨_,kR,fun z u hz kz=> ?_⟩,fun z u hz kz=> ?_,fun z kz=> ?_,fun z u hz kz=> ?_,l.apart,l.ne,l.inj⟩
 ·rcases zR hz with⟨q,e⟩|⟨q,hz⟩
  ·exact⟨y,if_pos q,e▸r⟩
  ·exact let⟨w,a,b⟩:=hm z u hz kz;⟨w,(if_neg q).trans a,b⟩
 ·rcases zR hz with⟨q,e⟩|⟨q,hz⟩
  ·rw[q,kx]at kz;cases kz
  ·exact let⟨c,w,h1,h2,h3⟩:=l.cell z u hz kz;⟨c,w,h1,kp (l.ne z c kz h1) h2,h3⟩
 ·exact let⟨c,w,h1,h2⟩:=l.there z kz;⟨c,w,h1,kp (l.ne z c kz h1) h2⟩
 ·exact let⟨c,w,h1,h2,h3,h4,h5⟩:=l.free z u hz kz;⟨c,w,h1,kp (fun z=>h4 (.inl z)) h2,h3,h4,h5⟩
theorem IA(H:au cx k A I σ st s)(l:av cx.P fe m env I σ st.length s.heap)(e:lk x fe.scope.names=some .cell)
  (r:aq I cx.P σ st.length v y)
  (h:∀s',aM cx.P (aF env) I σ st.length s.heap I σ st s'.heap→bw s s'→av cx.P fe (put x v m) env I σ st.length s'.heap→Q () s'):
  wpAny cx.M A (storeName env x y) Q E s:=by
 have kx:=(vZ l x).trans e;obtain⟨c,ada,hc,hv⟩:=l.there x kx;refine wpAny_storeName_cell (by rw[l.scope];exact l.kind) kx hc hv fun h' Vu hs=> ?_;have oc:aF env c:=.inr ⟨x,kx,hc⟩;have ap:=l.apart c oc;have kp:∀{d:Addr} {w:Option Value},d≠c→s.heap.IsCell d w→h'.IsCell d w:=fun hc h=>f9 h fun o e=>(hs.2 _ hc).trans e;have nc:∀{z:Str} {d:Addr},z≠x→env.kindOf z=some .cell→env.cells.lookup z=some d→d≠c:=fun q kz h1 z=>q (l.inj _ x _ kz kx h1 (z▸hc));refine h {s with heap:=h'} ((aM.own H.rel ap.1 ap.2 hs Vu.choose_spec.1).weaken fun b e=>e▸oc) ⟨rfl,rfl,rfl⟩
  ⟨l.scope,l.kind,l.glob,l.blt, ?_,fun z u hz kz=> ?_,fun z kz=> ?_,fun z u hz kz=> ?_,l.apart,l.ne,l.inj⟩
 ·obtain⟨mm,hn,hm⟩:=l.ns;refine⟨mm,hn.sameBut hs fun z=>l.ne x c kx hc z.symm,fun z u hz kz=> ?_⟩;rcases zR hz with⟨q,e⟩|⟨q,hz⟩
  ·rw[q,kx]at kz;cases kz
  ·exact hm z u hz kz
 ·rcases zR hz with⟨q,e⟩|⟨q,hz⟩
  ·exact⟨c,y,q▸hc,Vu,e▸r⟩
  ·exact let⟨d,w,h1,h2,h3⟩:=l.cell z u hz kz;⟨d,w,h1,kp (nc q kz h1) h2,h3⟩
 ·by_cases q:z=x
  ·exact⟨c,_,q▸hc,Vu⟩
  ·exact let⟨d,w,h1,h2⟩:=l.there z kz;⟨d,w,h1,kp (nc q kz h1) h2⟩
 ·exact let⟨d,w,h1,h2,h3,h4,h5⟩:=l.free z u hz kz;⟨d,w,h1,kp (fun z=>h4 (z▸oc)) h2,h3,h4,h5⟩
theorem pY(H:au cx k A I σ st s)(l:av cx.P fe m env I σ st.length s.heap)(e:rJ fe x=true)
  (r:aq I cx.P σ st.length v y)
  (h:∀s',aM cx.P (aF env) I σ st.length s.heap I σ st s'.heap→bw s s'→av cx.P fe (put x v m) env I σ st.length s'.heap→Q () s'):
  wpAny cx.M A (storeName env x y) Q E s:=by
 rw[rJ]at e;induction q:lk x fe.scope.names using qe with
 |none=>rw[q]at e;exact ft e
 |some kk=>
  rw[q]at e;induction kk using PySem.NameKind.casesOn with
  |«local»=>exact yp H l q r fun s' x=>h s' (x.weaken fun b e=>.inl e)
  |cell=>exact IA H l q r h
  |_=>exact ft e
end
noncomputable def di{α:Type}:List α→Nat→Option α
 |[],_=>none
 |x::l,n=>match n with
  |0=>some x
  |n+1=>di l n
theorem gH{α:Type}:∀(l:List α) (n:Nat),di l n=l[n]?
 |[],_=>rfl
 |_::_,0=>rfl
 |_::l,n+1=>gH l n
noncomputable def cF{α:Type}:List α→Nat→α→List α
 |[],_,_=>[]
 |x::l,n,y=>match n with
  |0=>y::l
  |n+1=>x::cF l n y
theorem eH{α:Type}:∀(l:List α) (n:Nat) (y:α),cF l n y=l.set n y
 |[],_,_=>rfl
 |_::_,0,_=>rfl
 |x::l,n+1,y=>congrArg (x::·) (eH l n y)
noncomputable def len{α:Type}:List α→Nat
 |[]=>0
 |_::l=>Nat.succ (len l)
theorem i6{α:Type}:∀l:List α,len l=l.length
 |[]=>rfl
 |_::l=>congrArg Nat.succ (i6 l)
section
theorem sI(x y:Str)(t:Tok):(Value.str y t).isStr x=seq x y:=by
 show(y==x)=seq x y;induction q:seq x y using qd with
 |true=>exact beq_iff_eq.mpr (gz.mp q).symm
 |false=>exact beq_eq_false_iff_ne.mpr (iD.mp q).symm
theorem bF.noRef:∀{es:List DictEntry},bF I P σ n fs es→es.any (·.refKey)=false:=by
 induction fs with
 |nil=>intro es h;replace h:=h.inv;subst h;rfl
 |cons a fs ih=>intro es h;replace h:=h.inv;induction h using gh.casesOn with|mk h r=>rw[List.any_cons,ih r];rfl
theorem OL(hr:es.any (·.refKey)=false)(q:seq x m=true):getL x (⟨hs,.str m t,z⟩::es)=some (some z):=by
 unfold getL;rw[List.find?_cons,sI,List.any_cons,hr,q]
theorem Lh(q:seq x m=false):getL x (⟨hs,.str m t,z⟩::es)=getL x es:=by
 unfold getL;rw[List.find?_cons,sI,List.any_cons,q];rfl
theorem bF.find(x:Str):∀{es:List DictEntry},bF I P σ n fs es→
  (∀v,lk x fs=some v→∃y,getL x es=some (some y)∧aq I P σ n v y)∧(lk x fs=none→getL x es=some none):=by
 induction fs with
 |nil=>intro es h;replace h:=h.inv;subst h;exact⟨fun v e=>nn e,fun _=>rfl⟩
 |cons a fs ih=>
  intro es h;replace h:=h.inv;induction h using gh.casesOn with
  |mk h r=>
   induction q:seq x a.1 using qd with
   |true=>rw[rH q];exact⟨fun v e=>⟨_,OL (bF.noRef r) q,qc e▸h⟩,fun e=>ns e⟩
   |false=>rw[m7 q,Lh q];exact ih r
theorem bF.put(hy:aq I P σ n v y):∀{es:List DictEntry},bF I P σ n fs es→
  bF I P σ n (Mine.Internal.put x v fs) (putL x (PyData.keyHash P x) (.str x t) y es):=by
 induction fs with
 |nil=>intro es h;replace h:=h.inv;subst h;exact .cons hy .nil
 |cons a fs ih=>
  intro es h;replace h:=h.inv;induction h using gh.casesOn with
  |mk h r=>
   unfold putL;rw[sI];induction q:seq x a.1 using qd with
   |true=>rw[xC q];exact .cons hy r
   |false=>rw[rI q];exact .cons h (ih r)
theorem bF.length:∀{es:List DictEntry},bF I P σ n fs es→es.length=fs.length:=by
 induction fs with
 |nil=>intro es h;replace h:=h.inv;subst h;rfl
 |cons a fs ih=>intro es h;replace h:=h.inv;induction h using gh.casesOn with|mk h r=>exact congrArg Nat.succ (ih r)
theorem aG.length:∀{xs:LV},aG I P σ n vs xs→xs.length=vs.length:=by
 induction vs with
 |nil=>intro es h;replace h:=h.inv;subst h;rfl
 |cons a fs ih=>intro es h;replace h:=h.inv;induction h using dP.casesOn with|mk h r=>exact congrArg Nat.succ (ih r)
theorem aG.append:∀{xs:LV},aG I P σ n vs xs→aG I P σ n ws ys→aG I P σ n (vs++ws) (xs++ys):=by
 induction vs with
 |nil=>intro es h s;replace h:=h.inv;subst h;exact s
 |cons a fs ih=>intro es h s;replace h:=h.inv;induction h using dP.casesOn with|mk h r=>exact .cons h (ih r s)
theorem aG.di:∀{xs:LV},aG I P σ n vs xs→∀{i:Nat} {v:V},Mine.Internal.di vs i=some v→∃x,xs[i]? =some x∧aq I P σ n v x:=by
 induction vs with
 |nil=>intro es h i v e;exact nn e
 |cons a fs ih=>
  intro es h i v e;replace h:=h.inv;induction h using dP.casesOn with
  |mk h r=>induction i using qk with
   |zero=>exact⟨_,rfl,qc e▸h⟩
   |succ i=>exact ih r e
end
noncomputable def n6{α:Type}(a:Addr):List (Addr×α)→Option α
 |[]=>none
 |p::l=>mS (Nat.beq a p.1) (some p.2) (n6 a l)
theorem q9{α:Type}{a:Addr}{l:List (Addr×α)}{x:α}(e:n6 a l=some x):(a,x)∈l:=by
 induction l with
 |nil=>exact nn e
 |cons p l ih=>exact jh e (fun q e=>by rw[qt q,←qc e];exact .head _) fun _ e=>.tail _ (ih e)
theorem zS{α:Type}{a:Str}{l:List (Str×α)}{x:α}(e:lk a l=some x):(a,x)∈l:=by
 induction l with
 |nil=>exact nn e
 |cons p l ih=>exact jh e (fun q e=>by rw[gz.mp q,←qc e];exact .head _) fun _ e=>.tail _ (ih e)
theorem tY.ak{K:Frag}{T:DR}(t:tY K T){C:Addr}{l:List (Str×AK)}{x:Str}{r:AK}(h1:n6 C T.attrs=some l)(h2:lk x l=some r):vX K C x r=true:=by
 have a:=List.all_eq_true.mp t.attrs (C,l) (q9 h1);dsimp only at a;exact List.all_eq_true.mp a (x,r) (zS h2)
theorem tY.ca{K:Frag}{T:DR}(t:tY K T){C:Addr}{l:List (Str×Addr)}{x:Str}{r:Addr}(h1:n6 C T.clsAt=some l)(h2:lk x l=some r):GX K C x r=true:=by
 have a:=List.all_eq_true.mp t.clsAt (C,l) (q9 h1);dsimp only at a;exact List.all_eq_true.mp a (x,r) (zS h2)
noncomputable def AO.Li:AO→Option (Addr×Nat):=fun o=>match o with
 |.inst C d=>some (C,d)
 |.list _ _=>none
 |.dict _=>none
noncomputable def AO.Lj:AO→Option (ai):=fun o=>match o with
 |.dict fs=>some fs
 |.inst _ _=>none
 |.list _ _=>none
noncomputable def AO.Ll:AO→Option (LV×List V):=fun o=>match o with
 |.list p vs=>some (p,vs)
 |.inst _ _=>none
 |.dict _=>none
theorem AO.Lm{o:AO}(e:o.Li=some (C,d)):o=.inst C d:=by induction o using AO.casesOn<;>cases e;rfl
theorem AO.Ln{o:AO}(e:o.Lj=some fs):o=.dict fs:=by induction o using AO.casesOn<;>cases e;rfl
theorem AO.Lo{o:AO}(e:o.Ll=some (p,vs)):o=.list p vs:=by induction o using AO.casesOn<;>cases e;rfl
noncomputable def nF(st:St)(k:Nat):Option (Addr×Nat):=match di st k with
 |some o=>o.Li
 |none=>none
noncomputable def dictAt(st:St)(k:Nat):Option (ai):=match di st k with
 |some o=>o.Lj
 |none=>none
noncomputable def listAt(st:St)(k:Nat):Option (LV×List V):=match di st k with
 |some o=>o.Ll
 |none=>none
theorem Lq{st:St}{k:Nat}(e:nF st k=some (C,d)):st[k]? =some (.inst C d):=by
 unfold nF at e;rw[gH]at e;induction q:st[k]? using qe with
 |none=>rw[q]at e;exact nn e
 |some o=>rw[q]at e;rw[AO.Lm e]
theorem o9{st:St}(e:dictAt st k=some fs):st[k]? =some (.dict fs):=by
 unfold dictAt at e;rw[gH]at e;induction q:st[k]? using qe with
 |none=>rw[q]at e;exact nn e
 |some o=>rw[q]at e;rw[AO.Ln e]
theorem listAt_eq{st:St}{k:Nat}(e:listAt st k=some (p,vs)):st[k]? =some (.list p vs):=by
 unfold listAt at e;rw[gH]at e;induction q:st[k]? using qe with
 |none=>rw[q]at e;exact nn e
 |some o=>rw[q]at e;rw[AO.Lo e]
noncomputable def fieldsOf(st:St)(v:V):Option (Addr×ai):=match v with
 |.inst C fs=>some (C,fs)
 |.loc k=>match nF st k with
  |some (C,d)=>match dictAt st d with
   |some fs=>some (C,fs)
   |none=>none
  |none=>none
 |_=>none
section
variable{cx:Cx}{st:St}
theorem cG.nF(r:cG cx.P I σ st h){k:Nat}(e:Mine.Internal.nF st k=some (C,d)):d<st.length∧h.get? (σ k)=some {cls:=.ref C,dict:=some (σ d),data:=.plain}:=by
 obtain⟨ob,h1,h2⟩:=r.cells k _ (Lq e);induction h2.inv using rG.casesOn
 exact⟨by assumption,h1⟩
theorem cG.dictAt(r:cG cx.P I σ st h){k:Nat}(e:Mine.Internal.dictAt st k=some fs):∃es ep,h.get? (σ k)=some (dictOf es ep)∧bF I cx.P σ st.length fs es:=by
 obtain⟨ob,h1,h2⟩:=r.cells k _ (o9 e);induction h2.inv using kP.casesOn
 exact⟨_,_,h1,by assumption⟩
theorem cG.listAt(r:cG cx.P I σ st h){k:Nat}(e:Mine.Internal.listAt st k=some (p,vs)):
  ∃xs ep,h.get? (σ k)=some {cls:=.type "list",data:=.seq (p++xs).toArray ep}∧aG I cx.P σ st.length vs xs∧p.length≤100000:=by
 obtain⟨ob,h1,h2⟩:=r.cells k _ (listAt_eq e);induction h2.inv using jZ.casesOn
 exact⟨_,_,h1,by assumption,by assumption⟩
theorem Bp(r:cG cx.P I σ st h)(hv:aq I cx.P σ st.length v y)(e:fieldsOf st v=some (C,fs)):
  ∃a es ep d,y=.ref a∧InstAt h a {cls:=.ref C,dict:=some d,data:=.plain} C (some (dictOf es ep))∧bF I cx.P σ st.length fs es:=by
 have q:=hv.inv;clear hv;induction v using V.casesOn with
 |inst C' ZZ=>
  obtain⟨rfl,rfl⟩:=oq e;induction q using pV.casesOn with|mk g1 g2 rf=>exact⟨_,_,_,_,rfl,⟨r.sub _ _ g1,rfl,rfl,r.sub _ _ g2⟩,rf.up⟩
 |loc k=>
  induction q using iG.casesOn
  unfold fieldsOf at e;dsimp only at e;induction q1:Mine.Internal.nF st k using qe with
  |none=>rw[q1]at e;exact nn e
  |some p=>
   rw[q1]at e;dsimp only at e;induction q2:Mine.Internal.dictAt st p.2 using qe with
   |none=>rw[q2]at e;exact nn e
   |some ZZ=>
    rw[q2]at e;obtain⟨rfl,rfl⟩:=oq e;obtain⟨es,ep,g1,g2⟩:=r.dictAt q2;exact⟨σ k,es,ep,σ p.2,rfl,⟨(r.nF q1).2,rfl,rfl,g1⟩,g2⟩
 |_=>exact nn e
end
section
theorem bR(h:∀y,aq I P σ n a y→aq I' P af n' b y)(t:∀es,bF I P σ n vs es→bF I' P af n' eg es)(es:List DictEntry)(r:bF I P σ n ((k,a)::vs) es):bF I' P af n' ((k,b)::eg) es:=by
 replace r:=r.inv;induction r using gh.casesOn with|mk h1 r=>exact .cons (h _ h1) (t _ r)
theorem Lr(es:List DictEntry)(r:bF I P σ n [] es):bF I' P af n' [] es:=r
theorem fU(y:Value)(r:aq I P σ n (.top a) y):aq I' P af n' (.top a) y:=by cases r.inv;exact .top _
theorem j0(h:aq I' P af n' b v)(y:Value)(r:aq I P σ n (.aL v) y):aq I' P af n' b y:=by cases r.inv;exact h
end
noncomputable def V.handed:V→Bool:=fun v=>match v with
 |.bi _=>false
 |.aL _=>false
 |_=>true
theorem IB(r:aq I P σ n v y)(h:v.handed=true):handedIn y=true:=by
 have q:=r.inv;clear r;induction v using V.casesOn with
 |bi=>exact ft h
 |aL=>exact ft h
 |_=>cases q;rfl
noncomputable def OM(cx:Cx)(C:Addr)(x:Str):Option AK:=cD (n6 C cx.tab.T.attrs) fun l=>lk x l
theorem Rg(b:iI cx I)(e:OM cx C x=some r):vX cx.tab.K C x r=true:=aK e fun _ q e=>b.tabs.ak q e
noncomputable def AK.isPlain:AK→Option Unit:=fun a=>match a with
 |.plain=>some ()
 |.yZ _=>none
noncomputable def AK.fn:AK→Option Addr:=fun a=>match a with
 |.plain=>none
 |.yZ f=>some f
noncomputable def IC{α:Type}:Option α→Bool:=fun o=>match o with
 |some _=>true
 |none=>false
theorem Lu{α:Type}{o:Option α}(e:IC o=true):∃x,o=some x:=by
 induction o using qe with
 |none=>exact ft e
 |some x=>exact⟨x,rfl⟩
noncomputable def Bq(cx:Cx)(C:Addr)(x:Str):Bool:=IC (cD (OM cx C x) AK.isPlain)
noncomputable def Lv(cx:Cx)(C:Addr)(x:Str):Option Addr:=cD (OM cx C x) AK.fn
theorem DT{cx:Cx}{I:IM}(b:iI cx I){C:Addr}{x:Str}(e:Bq cx C x=true):vX cx.tab.K C x .plain=true:=by
 obtain⟨_,e⟩:=Lu e;refine aK e fun k q e=> ?_;induction k using AK.casesOn with
 |plain=>exact Rg b q
 |yZ=>exact nn e
theorem SS(b:iI cx I)(e:Lv cx C x=some f):vX cx.tab.K C x (.yZ f)=true:=by
 refine aK e fun k q e=> ?_;induction k using AK.casesOn with
 |plain=>exact nn e
 |yZ g=>exact Rg b (qc e▸q)
noncomputable def y9(cx:Cx)(st:St)(v:V)(x:Str):Option V:=cD (fieldsOf st v) fun p=>fH (Bq cx p.1 x) (cD (lk x p.2) fun u=>fH u.handed (some u))
noncomputable def SV(cx:Cx)(C:Addr)(x:Str):Option Addr:=cD (n6 C cx.tab.T.clsAt) fun l=>lk x l
noncomputable def za(x:Str):Option BI:=lk x [("append",.append),("extend",.extend),("pop",.pop)]
noncomputable def uL(x:Str):Option BI:=lk x [("get",.Iv),("update",.Bk)]
noncomputable def i7:Bool→Bool:=fun b=>match b with
 |true=>false
 |false=>true
theorem wc(b:Bool):(!b)=i7 b:=by induction b using qd<;>rfl
noncomputable def zb(cx:Cx)(st:St)(v:V)(x:Str):Option (V×List V):=cD (fieldsOf st v) fun p=>cD (Lv cx p.1 x) fun f=>fH (i7 (IC (lk x p.2))) (some (.top f,[v]))
noncomputable def we(v:V)(o:Option BI):Option (V×List V):=cD o fun i=>some (.bi i,[v])
noncomputable def oA(cx:Cx)(st:St)(v:V)(x:Str):Option (V×List V):=match v with
 |.top C=>cD (SV cx C x) fun f=>some (.top f,[])
 |.inst _ _=>zb cx st v x
 |.fy _=>we v (uL x)
 |.loc k=>match listAt st k with
  |some _=>we v (za x)
  |none=>match dictAt st k with
   |some _=>we v (uL x)
   |none=>zb cx st v x
 |_=>none
section
variable{cx:Cx}{st:St}
theorem DU(H:au cx k A I σ st s)(hv:aq I cx.P σ st.length v y)(e:y9 cx st v x=some u)
  (h:∀z,aq I cx.P σ st.length u z→Q z {s with toks:=s.toks+1}):wpAny cx.M A (getAttr y x expr) Q E s:=by
 refine aK e fun p q e=>aK (cW e) fun u' hu e'=> ?_;obtain rfl:=qc (cW e');obtain⟨a,es,ep,d,rfl,ia,rf⟩:=Bp H.rel hv q;have ok:=DT H.base (cQ e);simp only[vX,Bool.and_eq_true,beq_iff_eq]at ok;obtain⟨z,hz,rz⟩:=(rf.find x).1 u' hu;exact get_value (H.base.zO H.rel.sub) ia (plainGet_of ok.1.1.1.1).1 (findObj_own ok.1.1.1.2 ok.1.1.2 rfl hz) (IB rz (cQ e')) (h z rz)
theorem tZ{α:Type}{x y:Str}{a r:α}{l:List (Str×α)}{G:Prop}(e:lk x ((y,a)::l)=some r)(h1:x=y→r=a→G)(h2:lk x l=some r→G):G:=by
 exact jh (b:=seq x y) e (fun q e=>h1 (gz.mp q) (qc e).symm) fun _ e=>h2 e
theorem yq{x:Str}{i:BI}(e:za x=some i):Slot "list" x i.id∧typeOf (.builtin i.id)=pure (.type "method_descriptor"):=
 tZ e (fun a b=>a▸b▸⟨PySem.F.slot_list_append,PySem.F.type_list_append⟩) fun e=>tZ e (fun a b=>a▸b▸⟨PySem.F.slot_list_extend,PySem.F.type_list_extend⟩) fun e=>tZ e (fun a b=>a▸b▸⟨PySem.F.slot_list_pop,PySem.F.type_list_pop⟩) fun e=>nn e
theorem yr{x:Str}{i:BI}(e:uL x=some i):Slot "dict" x i.id∧typeOf (.builtin i.id)=pure (.type "method_descriptor"):=
 tZ e (fun a b=>a▸b▸⟨PySem.F.slot_dict_get,PySem.F.type_dict_get⟩) fun e=>tZ e (fun a b=>a▸b▸⟨PySem.F.slot_dict_update,PySem.F.type_dict_update⟩) fun e=>nn e
theorem zT(H:au cx k A I σ st s)(hv:aq I cx.P σ st.length v y)
  (e:zb cx st v x=some (u,us))(h:∀z zs,aq I cx.P σ st.length u z→aG I cx.P σ st.length us zs→∀t,Q (z,zs) {s with toks:=t}):wpAny cx.M A (getMethod y x pl) Q E s:=by
 refine aK e fun p q e=>aK e fun f hf e=> ?_;obtain⟨rfl,rfl⟩:=oq (cW e);obtain⟨a,es,ep,d,rfl,ia,rf⟩:=Bp H.rel hv q;have ok:=SS H.base hf;simp only[vX,Bool.and_eq_true,beq_iff_eq]at ok;have hz:getL x es=some none:=by
  induction q2:lk x p.2 using qe with
  |none=>exact(rf.find x).2 q2
  |some w=>have:=cQ e;rw[q2]at this;exact ft this
 exact method_fn (H.base.zO H.rel.sub) ia (plainGet_of ok.1.1).1 (plainGet_of ok.1.1).2 ok.1.2 (beq_iff_eq.mp ok.2) (by show(lookIn x (dictOf es ep)).map _=_;rw[lookIn_dict,hz];rfl) (h _ _ (.top f) (.cons hv .nil) s.toks)
theorem Lw(hv:aq I cx.P σ st.length v y)(ey:y=.ref a)(g:s.heap.get? a=some o)(ho:o.cls=.type "list")(hd:o.dict=none)
  (e:we v (za x)=some (u,us))(h:∀z zs,aq I cx.P σ st.length u z→aG I cx.P σ st.length us zs→∀t,Q (z,zs) {s with toks:=t}):wpAny cx.M A (getMethod y x pl) Q E s:=by
 subst ey;refine aK e fun i hi e=> ?_;obtain⟨rfl,rfl⟩:=oq e;exact getMethod_builtin (T:="list") ⟨_,g,ho⟩ PySem.F.plainAttrs_list (yq hi).1 (yq hi).2 (fun b e=>by cases e;exact⟨_,g,hd⟩) (h _ _ (.bi i) (.cons hv .nil) s.toks)
theorem Co(hv:aq I cx.P σ st.length v y)(ey:y=.ref a)(g:s.heap.get? a=some o)(ho:o.cls=.type "dict")(hd:o.dict=none)
  (e:we v (uL x)=some (u,us))(h:∀z zs,aq I cx.P σ st.length u z→aG I cx.P σ st.length us zs→∀t,Q (z,zs) {s with toks:=t}):wpAny cx.M A (getMethod y x pl) Q E s:=by
 subst ey;refine aK e fun i hi e=> ?_;obtain⟨rfl,rfl⟩:=oq e;exact getMethod_builtin (T:="dict") ⟨_,g,ho⟩ PySem.F.plainAttrs_dict (yr hi).1 (yr hi).2 (fun b e=>by cases e;exact⟨_,g,hd⟩) (h _ _ (.bi i) (.cons hv .nil) s.toks)
theorem Vv(h:(a&&b)=true):a=true∧b=true:=by induction a using qd with|true=>exact⟨rfl,h⟩|false=>exact ft h
theorem zc(H:au cx k A I σ st s)(hv:aq I cx.P σ st.length v y)
  (e:oA cx st v x=some (u,us))(h:∀z zs,aq I cx.P σ st.length u z→aG I cx.P σ st.length us zs→∀t,Q (z,zs) {s with toks:=t}):wpAny cx.M A (getMethod y x pl) Q E s:=by
 have iv:=hv.inv;induction v using V.casesOn with
 |top C=>
  refine aK e fun f hf e=>aK hf fun l q hf=> ?_;obtain⟨rfl,rfl⟩:=oq e;have ok:=H.base.tabs.ca q hf;obtain⟨o12,o3⟩:=Vv ok;obtain⟨o1,o2⟩:=Vv o12;rw[(iv:y=_)];exact method_cls (H.base.zO H.rel.sub) (beq_iff_eq.mp o2) (cls_value (H.base.zO H.rel.sub) o1 (Ld o3) rfl (h _ _ (.top f) .nil _))
 |inst=>exact zT H hv e h
 |fy fs=>induction iv using tG.casesOn with|mk hs g rf=>exact Co hv rfl (H.rel.sub _ _ g) rfl rfl e h
 |loc k'=>
  unfold oA at e;dsimp only at e;induction hl:listAt st k' using qe with
  |some pv=>
   rw[hl]at e;obtain⟨xs,ep,g,_⟩:=H.rel.listAt (p:=pv.1) (vs:=pv.2) hl;exact Lw hv ((by obtain⟨_⟩:=iv;exact rfl)) g rfl rfl e h
  |none=>
   rw[hl]at e;dsimp only at e;induction hd:dictAt st k' using qe with
   |some fs=>
    rw[hd]at e;obtain⟨es,ep,g,_⟩:=H.rel.dictAt hd;exact Co hv ((by obtain⟨_⟩:=iv;exact rfl)) g rfl rfl e h
   |none=>rw[hd]at e;exact zT H hv e h
 |_=>exact nn e
noncomputable def zd(cx:Cx)(st:St)(v:V)(x:Str)(u:V):Option St:=match v with
 |.loc k=>cD (nF st k) fun p=>cD (dictAt st p.2) fun fs=>fH (Bq cx p.1 x) (fH (Nat.blt (len fs) 100) (some (cF st p.2 (.dict (put x u fs)))))
 |_=>none
theorem yv(name:Str)(Rh:Int)(key v:Value):∀es:List DictEntry,(putL name Rh key v es).length≤es.length+1
 |[]=>qf _
 |e::r=>by
  unfold putL
  split
  ·exact qM _
  ·exact Nat.succ_le_succ (yv name Rh key v r)
theorem Vx(g:s.heap.get? a=some (dictOf es ep))(hr:es.any (·.refKey)=false)
  (h:Q () {s with heap:=s.heap.update a (Obj.putName x (PyData.keyHash M.w.params x) (.str x s.toks) v),toks:=s.toks+1}):wpAny M A (nsSet a x v) Q E s:=by
 unfold nsSet;refine wpAny_bind (wpAny_bind (wpAny_askSetting (wpAny_pure (wpAny_bind (wpAny_mkText (wpAny_bind (wpAny_loadPart g ?_)))))));dsimp only;have c:(!es.toArray.any (·.key.isStr x)&&es.toArray.any (·.refKey))=false:=by
  rw[←Array.any_toList (p:=fun e:DictEntry=>e.refKey)];simp only[hr,Bool.and_false]
 rw[aRefKeyMayBeTheName_at,c];exact wpAny_updatePart g h
theorem Lx(X:cx.tab.K.In s.heap)(Ly:d<st.length)(gi:s.heap.get? (σ kk)=some {cls:=.ref C,dict:=some (σ d),data:=.plain})
  (gd:s.heap.get? (σ d)=some (dictOf es ep))(rf:bF I cx.P σ st.length fs es)(o2:hasDictIn cx.tab.K C=true)(o3:findIn cx.tab.K (.ref C) x=some none)(o4:findIn cx.tab.K (.ref C) "__setattr__"=some (some (.builtin "object.__setattr__")))(o5:plainOver cx.tab.K C=true)
  (lb:fs.length<100)(hu:aq I cx.P σ st.length u z)(R:cG cx.P I σ st s.heap)(h:∀s',aM cx.P (fun _=>False) I σ st.length s.heap I σ (cF st d (.dict (put x u fs))) s'.heap→bw s s'→(cF st d (.dict (put x u fs))).length=st.length→Q () s'):
  wpAny cx.M A (setAttr (.ref (σ kk)) x z) Q E s:=by
 have ia:InstAt s.heap (σ kk) {cls:=.ref C,dict:=some (σ d),data:=.plain} C (some (dictOf es ep)):=⟨gi,rfl,rfl,gd⟩;have tk:takerIn cx.tab.K C x=some none:=by unfold takerIn;rw[o3];rfl
 refine set_plain X ia o4 (osa_open (s:={s with toks:=s.toks+1}) X ia o5 tk fun b=> ?_);dsimp only;obtain⟨cd,hc,Vy⟩:=any_some o2;refine wpAny_bind (wpAny_pure (wpAny_bind (wpAny_bind (wpAny_loadPart gi (wpAny_bind (Looks.here (s:={s with toks:=s.toks+1}) (looks_clsIn X hc) ?_))))));rw[Vy];refine wpAny_pure (a:=some (σ d)) (wpAny_bind (wpAny_pure (wpAny_bind ?_)));refine Vx (s:={s with toks:=s.toks+1}) gd rf.noRef ?_;have fr:(Obj.putName x (PyData.keyHash cx.w.params x) (.str x (s.toks+1)) z (dictOf es ep)).isFreed=false:=by rw[putName_dict];rfl
 have or:dw I cx.P σ st.length (.dict (put x u fs)) (Obj.putName x (PyData.keyHash cx.w.params x) (.str x (s.toks+1)) z (dictOf es ep)):=by
  rw[putName_dict];exact .dict _ (rf.put hu)
 have ex:=aM.upd R Ly gd fr or;have g':=Heap.get?_update_self (Obj.putName x (PyData.keyHash cx.w.params x) (.str x (s.toks+1)) z) gd fr;rw[putName_dict]at g';refine wpAny_bind (wpAny_lookBehind g' (pastItsLine_dict ?_) (wpAny_pure ?_))
 ·have:=yv x (PyData.keyHash cx.w.params x) (.str x (s.toks+1)) z es;have:=rf.length;rw[List.size_toArray,sizeLine_eq];lia
 ·rw[eH]at h;exact h {s with heap:=_,toks:=_} ex ⟨rfl,rfl,rfl⟩ (by simp)
theorem DV(H:au cx k A I σ st s)(hv:aq I cx.P σ st.length v y)(hu:aq I cx.P σ st.length u z)(e:zd cx st v x u=some st')
  (h:∀s',aM cx.P (fun _=>False) I σ st.length s.heap I σ st' s'.heap→bw s s'→st'.length=st.length→Q () s'):wpAny cx.M A (setAttr y x z) Q E s:=by
 have iv:=hv.inv;clear hv;induction v using V.casesOn with
 |loc kk=>
  refine aK e fun p hi e=>aK e fun fs hd e=> ?_;have ok:=DT H.base (cQ e);simp only[vX,Bool.and_eq_true,beq_iff_eq]at ok;have lb:fs.length<100:=by rw[←i6];exact qo (cQ (cW e))
  rw[←qc (cW (cW e))]at h;rw[show y=.ref (σ kk)from(by obtain⟨_⟩:=iv;exact rfl)];have X:=H.base.zO H.rel.sub;have gi:=H.rel.nF (C:=p.1) (d:=p.2) hi;obtain⟨es,ep,gd,rf⟩:=H.rel.dictAt hd;exact Lx X gi.1 gi.2 gd rf ok.1.1.1.2 ok.1.1.2 ok.1.2 ok.2 lb hu H.rel h
 |_=>exact nn e
end
section
variable{cx:Cx}{st:St}
theorem kc{ep:Nat}{f:Array Value→Array Value}{t:Nat}{Q:SP}(H:au cx k A I σ st s)(e:listAt st l=some (p,vs))
  (g:s.heap.get? (σ l)=some {cls:=.type "list",data:=.seq (p++xs).toArray ep})(hp:p.length≤100000)(hf:f (p++xs).toArray=(p++ys).toArray)(r:aG I cx.P σ st.length ws ys)
  (h:∀s',aM cx.P (fun _=>False) I σ st.length s.heap I σ (cF st l (.list p ws)) s'.heap→bw s s'→Q s'):
  Q {s with heap:=s.heap.update (σ l) (Obj.mapSeq f),toks:=t}:=by
 have hl:l<st.length:=(List.getElem?_eq_some_iff.mp (listAt_eq e)).1;have q:Obj.mapSeq f {cls:=.type "list",data:=.seq (p++xs).toArray ep}=({cls:=.type "list",data:=.seq (p++ys).toArray (if(p++ys).toArray.size==(p++xs).toArray.size then ep else ep+1)}:Obj):=by
  show(⟨_,_,.seq (f (p++xs).toArray) _,_⟩:Obj)=_;rw[hf]
 have x:=aM.upd (ao:=.list p ws) H.rel hl g (f:=Obj.mapSeq f) (by rw[q];rfl) (by rw[q];exact .list _ hp r);rw[←eH]at x;exact h {s with heap:=_,toks:=t} x ⟨rfl,rfl,rfl⟩
theorem xD{p xs:LV}(hp:p.length≤100000)(hx:xs.length<n)(hn:n≤1000):(p++xs).toArray.size≤sizeLine:=by
 rw[List.size_toArray,List.length_append,sizeLine_eq];lia
noncomputable def cz{α β:Type}(o:Option α)(f:α→aA β):aA β:=match o with
 |some x=>f x
 |none=>.bad
theorem aN{α β:Type}{S:Spec}{pre:Nat→Addr→List V→St→Prop}{o:Option α}{f:α→aA β}{R:β→Prop}{G:Prop}(e:Good S pre (cz o f) R)(h:∀x,o=some x→Good S pre (f x) R→G):G:=by
 induction o using qe with
 |none=>exact e.elim
 |some x=>exact h x rfl e
noncomputable def dR{β:Type}(b:Bool)(x:aA β):aA β:=match b with
 |true=>x
 |false=>.bad
theorem bA{β:Type}{S:Spec}{pre:Nat→Addr→List V→St→Prop}{b:Bool}{x:aA β}{R:β→Prop}(e:Good S pre (dR b x) R):b=true∧Good S pre x R:=by
 induction b using qd with
 |false=>exact e.elim
 |true=>exact⟨rfl,e⟩
noncomputable def xE(st:St)(l:Nat)(v:V):aA St:=cz (listAt st l) fun pv=>.need (pv.2.length<500) (.ok (cF st l (.list pv.1 (pv.2++[v]))))
theorem lJ{α:Type}{l:List α}{n:Nat}(h:Nat.blt (len l) n=true):l.length<n:=by
 rw[←i6];exact qo h
theorem yy{l:Nat}{v:V}{z:Value}{R:St→Prop}{Q:dU}(H:au cx k A I σ st s)(hz:aq I cx.P σ st.length v z)(e:Good cx.S cx.pre (xE st l v) R)
  (h:∀st' s',R st'→aM cx.P (fun _=>False) I σ st.length s.heap I σ st' s'.heap→bw s s'→Q .none s'):wpAny cx.M A (call (.builtin "list.append") [.ref (σ l),z]) Q E s:=by
 refine aN e fun pv q e=> ?_;obtain⟨xs,ep,g,r,hp⟩:=H.rel.listAt (p:=pv.1) (vs:=pv.2) q;have sz:(pv.1++xs).toArray.size≤sizeLine:=xD hp (by rw[r.length];exact e.1) (by exact fG);refine call_meets PySem.F.slot_list_append ⟨_,g,rfl⟩ PySem.F.entry_list_append (PySem.F.args_list_append_2 _ _) (list_append (σ l) _ _ z sz) ⟨g, ?_⟩;exact kc (Q:=Q .none) (ys:=xs++[z]) H q g hp (by simp) (r.append (.cons hz .nil)) fun s'=>h _ s' e.2
noncomputable def eu{α:Type}:List α→Bool:=fun l=>match l with
 |[]=>true
 |_::_=>false
theorem cI{α:Type}{l:List α}(h:eu l=true):l=[]:=by
 induction l using qh with
 |nil=>rfl
 |cons=>exact ft h
noncomputable def xF(st:St)(v:V):Option (List V):=match v with
 |.tup vs=>some vs
 |.lst vs=>some vs
 |.loc l=>cD (listAt st l) fun pv=>fH (eu pv.1) (some pv.2)
 |_=>none
theorem zg{v:V}{y:Value}{vs:List V}{h:Heap}(r:cG cx.P I σ st h)(hv:aq I cx.P σ st.length v y)(e:xF st v=some vs):
  ∃a xs ep T,y=.ref a∧(T="list"∨T="tuple")∧h.get? a=some {cls:=.type T,data:=.seq xs.toArray ep}∧aG I cx.P σ st.length vs xs:=by
 have q:=hv.inv;clear hv;induction v using V.casesOn with
 |tup ws=>induction q using iV.casesOn with|mk g q=>exact⟨_,_,_,"tuple",rfl,.inr rfl,r.sub _ _ g,qc e▸q⟩
 |lst ws=>induction q using mU.casesOn with|mk g q=>exact⟨_,_,_,"list",rfl,.inl rfl,r.sub _ _ g,qc e▸q.up⟩
 |loc l=>
  refine aK e fun pv ql e=> ?_;induction q using iG.casesOn
  obtain⟨xs,ep,g,rr,_⟩:=r.listAt (p:=pv.1) (vs:=pv.2) ql;rw[cI (cQ e)]at g;exact⟨σ l,xs,ep,"list",rfl,.inl rfl,g,qc (cW e)▸rr⟩
 |_=>exact nn e
noncomputable def GZ(st:St)(l:Nat)(v:V):aA St:=cz (listAt st l) fun pv=>cz (xF st v) fun ws=>.need (pv.2.length<250∧ws.length<250) (.ok (cF st l (.list pv.1 (pv.2++ws))))
theorem SW{m:Nat}(h:m≤200000):Builtin.List.listTooLong m=false:=by
 unfold Builtin.List.listTooLong;exact decide_eq_false (by rw[sizeLine_eq];lia)
theorem Gv{l:Nat}{v:V}{z:Value}{R:St→Prop}{Q:dU}(H:au cx k A I σ st s)(hz:aq I cx.P σ st.length v z)(e:Good cx.S cx.pre (GZ st l v) R)
  (h:∀st' s',R st'→aM cx.P (fun _=>False) I σ st.length s.heap I σ st' s'.heap→bw s s'→Q .none s'):wpAny cx.M A (call (.builtin "list.extend") [.ref (σ l),z]) Q E s:=by
 refine aN e fun pv q e=>aN e fun ws hw e=> ?_;obtain⟨xs,ep,g,r,hp⟩:=H.rel.listAt (p:=pv.1) (vs:=pv.2) q;obtain⟨b,ys,ep2,T,rfl,hT,g2,r2⟩:=zg H.rel hz hw;have l1:pv.2.length<250:=e.1.1;have l2:ws.length<250:=e.1.2;have e1:=r.length;have e2:=r2.length;have sz:(pv.1++xs).toArray.size≤sizeLine:=xD hp (n:=250) (by lia) (by exact fG);have s2:(pv.1++xs).toArray.size+ys.toArray.size≤sizeLine+1:=by
  simp only[List.size_toArray,List.length_append,sizeLine_eq];lia
 have tl:¬(!(pv.1++xs).toArray.isEmpty&&Builtin.List.listTooLong ((pv.1++xs).toArray.size+ys.toArray.size))=true:=by
  rw[SW (by simp only[List.size_toArray,List.length_append];lia),Bool.and_false];exact qD
 rcases hT with rfl|rfl
 ·exact call_meets PySem.F.slot_list_extend ⟨_,g,rfl⟩ PySem.F.entry_list_extend (PySem.F.args_list_extend_2 _ _) (AutoSeq1.list_extend_list_list_0 (σ l) _ _ b _ _ tl sz s2) ⟨g,g2,kc (Q:=Q .none) (ys:=xs++ys) H q g hp (by simp) (r.append r2) fun s'=>h _ s' e.2⟩
 ·exact call_meets PySem.F.slot_list_extend ⟨_,g,rfl⟩ PySem.F.entry_list_extend (PySem.F.args_list_extend_2 _ _) (AutoSeq1.list_extend_list_tuple_0 (σ l) _ _ b _ _ tl sz s2) ⟨g,g2,kc (Q:=Q .none) (ys:=xs++ys) H q g hp (by simp) (r.append r2) fun s'=>h _ s' e.2⟩
noncomputable def aaK{α:Type}(x:α)(o:Option (List α×α)):List α×α:=match o with
 |some p=>(x::p.1,p.2)
 |none=>([],x)
noncomputable def zU{α:Type}:List α→Option (List α×α)
 |[]=>none
 |x::l=>some (aaK x (zU l))
theorem Cp{α:Type}(l:List α):∀{p:List α×α},zU l=some p→l=p.1++[p.2]:=by
 induction l with
 |nil=>intro p e;exact nn e
 |cons x l ih=>
  intro p e;rw[←qc e];induction l using qh with
  |nil=>rfl
  |cons y l=>exact congrArg (x::·) (ih rfl)
theorem aG.one{P:Params}{n:Nat}{v:V}{xs:LV}(r:aG I P σ n [v] xs):∃y,xs=[y]∧aq I P σ n v y:=by
 replace r:=r.inv;induction r using dP.casesOn with
 |mk h r=>rw[show _=[]from r.inv];exact⟨_,rfl,h⟩
theorem aG.snoc{P:Params}{n:Nat}{vs:List V}{v:V}:∀{xs:LV},aG I P σ n (vs++[v]) xs→∃ys y,xs=ys++[y]∧aG I P σ n vs ys∧aq I P σ n v y:=by
 induction vs with
 |nil=>intro xs r;obtain⟨y,rfl,h⟩:=aG.one r;exact⟨[],_,rfl,.nil,h⟩
 |cons w vs ih=>
  intro xs r;replace r:=r.inv;induction r using dP.casesOn with
  |mk h r=>
   obtain⟨ys,y,rfl,r1,r2⟩:=ih r;exact⟨_::ys,y,rfl,.cons h r1,r2⟩
noncomputable def Vz(st:St)(l:Nat):Option (V×St):=cD (listAt st l) fun pv=>cD (zU pv.2) fun wv=>fH (Nat.blt (len pv.2) 500) (some (wv.2,cF st l (.list pv.1 wv.1)))
theorem ON(p ys:LV)(y:Value):(p++(ys++[y])).toArray[(p++(ys++[y])).toArray.size-1]? =some y:=by rw[←List.append_assoc];simp
theorem OO(p ys:LV)(y:Value):(p++(ys++[y])).toArray.eraseIdxIfInBounds ((p++(ys++[y])).toArray.size-1)=(p++ys).toArray:=by
 apply Array.ext'
 rw[←List.append_assoc];simp[List.eraseIdx_append_of_length_le]
theorem OP{l:Nat}{v:V}{st':St}{Q:dU}(H:au cx k A I σ st s)(e:Vz st l=some (v,st'))
  (h:∀y s',aM cx.P (fun _=>False) I σ st.length s.heap I σ st' s'.heap→bw s s'→aq I cx.P σ st.length v y→Q y s'):wpAny cx.M A (call (.builtin "list.pop") [.ref (σ l)]) Q E s:=by
 refine aK e fun pv q e=>aK e fun wv hq e=> ?_;have l1:=lJ (cQ e);obtain⟨rfl,rfl⟩:=oq (cW e);obtain⟨xs,ep,g,r,hp⟩:=H.rel.listAt (p:=pv.1) (vs:=pv.2) q;have e1:=r.length;rw[Cp _ hq]at r;obtain⟨ys,y,rfl,r1,r2⟩:=r.snoc;have sz:(pv.1++(ys++[y])).toArray.size≤sizeLine:=xD hp (by rw[e1];exact l1) (by lia);refine call_meets PySem.F.slot_list_pop ⟨_,g,rfl⟩ PySem.F.entry_list_pop (PySem.F.args_list_pop_1 _) (MeetsSeq.list_pop_last (σ l) _ _ y (ON _ _ _) sz) ⟨g, ?_⟩;exact kc (Q:=Q y) (t:=s.toks) (ys:=ys) H q g hp (OO _ _ _) r1 (fun s' a b=>h y s' a b r2)
noncomputable def OQ{α:Type}:List α→Option (α×List α):=fun l=>match l with
 |[]=>none
 |x::l=>some (x,l)
theorem Br{α:Type}{l:List α}{p:α×List α}(e:OQ l=some p):l=p.1::p.2:=by
 induction l using qh with
 |nil=>exact nn e
 |cons x l=>rw[←qc e]
noncomputable def Ri(st:St)(l:Nat):aA (V×St):=cz (listAt st l) fun pv=>cz (fH (eu pv.1) (OQ pv.2)) fun vw=>.need (vw.2.length<400) (.ok (vw.1,cF st l (.list [] vw.2)))
theorem Lz{l:Nat}{t:Tok}{R:V×St→Prop}{Q:dU}(H:au cx k A I σ st s)(e:Good cx.S cx.pre (Ri st l) R)
  (h:∀v st' y s',R (v,st')→aM cx.P (fun _=>False) I σ st.length s.heap I σ st' s'.heap→bw s s'→aq I cx.P σ st.length v y→Q y s'):wpAny cx.M A (call (.builtin "list.pop") [.ref (σ l),.int 0 t]) Q E s:=by
 refine aN e fun pv q e=>aN e fun vw hd e=> ?_;obtain⟨xs,ep,g,r,hp⟩:=H.rel.listAt (p:=pv.1) (vs:=pv.2) q;have e1:=r.length;rw[Br (cW hd)]at r e1;have q':listAt st l=some ([],pv.2):=by rw[q,←cI (cQ hd)]
 rw[cI (cQ hd)]at g;replace r:=r.inv;induction r using dP.casesOn with
 |mk hv r=>
  rename_i y ys
  have l1:vw.2.length<400:=e.1;have sz:([]++(y::ys)).toArray.size≤sizeLine:=xD (n:=500) (p:=[]) (by exact nz) (by rw[e1];simp;lia) (by lia);refine call_meets PySem.F.slot_list_pop ⟨_,g,rfl⟩ PySem.F.entry_list_pop (PySem.F.args_list_pop_2 _ _) (MeetsSeq.list_pop_at (σ l) _ _ 0 t 0 y (by decide+kernel) (by simp[seqIndex?]) (by rfl) sz) ⟨g, ?_⟩;refine kc (Q:=Q y) (t:=s.toks) (ys:=ys) (p:=[]) H q' g (by exact nz) ?_ r (fun s' a b=>h _ _ y s' e.2 a b hv)
  apply Array.ext'
  simp
end
theorem g7(mJ:Expr)(o i:Value):∃nG,subscripted mJ false o i=operate nG (getItem o i):=by
 induction mJ using Expr.casesOn with
 |Slice a b c p=>induction c using qe<;>exact⟨_,rfl⟩
 |_=>exact⟨_,rfl⟩
section
variable{cx:Cx}{st:St}
theorem pZ(w:World)(hw:w.params=P)(prog:Program):∀{es:List DictEntry},bF I P σ n fs es→KeysOf (strKind prog w) es.toArray:=by
 induction fs with
 |nil=>intro es h;replace h:=h.inv;subst h;exact fun e he=>by simp at he
 |cons a fs ih=>
  intro es h;replace h:=h.inv;induction h using gh.casesOn with
  |mk h r=>
   intro e he;rcases List.mem_cons.mp (List.mem_toArray.mp he)with rfl|he
   ·exact⟨a.1,strKind_is prog w a.1 _,by rw[←hw];rfl⟩
   ·exact ih r e (List.mem_toArray.mpr he)
theorem ID(x:Str):(fun e:DictEntry=>Value.isStrOf x e.key)=fun e=>e.key.isStr x:=funext fun e=>(W.isStr_of x e.key).symm
theorem tL(es:List DictEntry)(x:Str)(hr:es.any (·.refKey)=false):getL x es=some (findBy Value.isStrOf es.toArray x):=by
 unfold getL findBy;rw[List.find?_toArray,ID,hr];induction es.find? (fun e=>e.key.isStr x)using qe<;>rfl
theorem wg{ep:Nat}{h:Heap}{n:Nat}(g:h.get? a=some (dictOf es ep))(r:bF I cx.P σ n fs es):h.MapOf (strKind cx.prog cx.w) a (findBy Value.isStrOf es.toArray):=
 ⟨_,es.toArray,ep,g,⟨rfl,rfl,rfl⟩,rfl,pZ cx.w rfl cx.prog r,fun _=>rfl⟩
noncomputable def oB(st:St)(v:V):Option (ai):=match v with
 |.fy fs=>some fs
 |.loc k=>dictAt st k
 |_=>none
theorem xG(r:cG cx.P I σ st h)(hv:aq I cx.P σ st.length v y)(e:oB st v=some fs):
  ∃a es ep,y=.ref a∧h.get? a=some (dictOf es ep)∧bF I cx.P σ st.length fs es∧(iI cx I→(a==sysModules)=false):=by
 have q:=hv.inv;clear hv;induction v using V.casesOn with
 |fy ZZ=>induction q using tG.casesOn with|mk hs g q=>exact⟨_,_,_,rfl,r.sub _ _ g,qc e▸q.up,fun _=>hs⟩
 |loc k=>
  induction q using iG.casesOn with
  |mk hl=>
   obtain⟨es,ep,g,q⟩:=r.dictAt e;refine⟨_,es,ep,rfl,g,q,fun b=>beq_eq_false_iff_ne.mpr fun z=> ?_⟩;obtain⟨o,ho⟩:=b.tK;have:=r.out _ hl;rw[z,ho]at this;exact ns this
 |_=>exact nn e
noncomputable def Rj(st:St)(o:V):Option V:=match o with
 |.loc l=>cD (listAt st l) fun pv=>cD (zU pv.2) fun wv=>fH (Nat.blt (len pv.2) 500) (some wv.2)
 |_=>none
noncomputable def Rk(st:St)(o:V):Int→Option V
 |.ofNat j=>cD (xF st o) fun vs=>fH (Nat.blt (len vs) 500) (di vs j)
 |.negSucc m=>match m with
  |0=>Rj st o
  |_+1=>none
noncomputable def zh(st:St)(o i:V):Option V:=match i with
 |.int n=>Rk st o n
 |.str x=>cD (oB st o) fun fs=>lk x fs
 |_=>none
noncomputable def DW(st:St)(o i:V):aA V:=match o with
 |.lst vs=>match i with
  |.int n=>.pick vs n .ok
  |.num n=>.pick vs n .ok
  |_=>.bad
 |_=>Rb (zh st o i)
theorem VA{α:Type}{l:List α}{n:Nat}{x:α}(e:di l n=some x):n<l.length:=by
 rw[gH]at e;exact(List.getElem?_eq_some_iff.mp e).1
section
theorem SX{j:Nat}{t:Tok}(H:au cx k A I σ st s)(ho:aq I cx.P σ st.length o y)(e:Rk st o (.ofNat j)=some v)(h:∀x t,aq I cx.P σ st.length v x→Q x {s with toks:=t}):wpAny cx.M A (subscriptTail value mJ y (.int (.ofNat j) t)) Q E s:=by
 obtain⟨nG,pN⟩:=g7 mJ y (.int (.ofNat j) t);refine aK e fun vs q e=> ?_;obtain⟨a,xs,ep,T,rfl,hT,g,r⟩:=zg H.rel ho q;have hj:=VA (cW e);have l1:=lJ (cQ e);have e1:=r.length;obtain⟨x,hx,rx⟩:=r.di (cW e);rcases hT with rfl|rfl
 ·exact tail_any (T:="list") ⟨_,g,rfl⟩ PySem.F.slot_list_getitem.lookup (wpAny_getItem_list (items:=xs.toArray) ⟨_,g,rfl,ep,rfl⟩ (Int.natCast_nonneg j) (by show(j:Int)<2^63;lia) (by simpa using hx) (h x s.toks rx)) pN
 ·have hs:seqIndex? (Int.ofNat j) xs.toArray.size=some j:=by
   unfold seqIndex?;rw[List.size_toArray];have:(Int.ofNat j)=(j:Int):=rfl;rw[this];simp only[Int.natCast_nonneg]
   split<;>first|(simp;lia)|(exfalso;lia)|rfl
  exact tail_any (T:="tuple") ⟨_,g,rfl⟩ slot_tuple_getitem.lookup (getItem_tuple (items:=xs.toArray) ⟨_,g,rfl,ep,rfl⟩ (by show-(2^63)≤(j:Int);lia) (by show(j:Int)<2^63;lia) hs (by simpa using hx) (h x s.toks rx)) pN
theorem OR{t:Tok}(H:au cx k A I σ st s)(ho:aq I cx.P σ st.length o y)(e:Rj st o=some v)(h:∀x t,aq I cx.P σ st.length v x→Q x {s with toks:=t}):wpAny cx.M A (subscriptTail value mJ y (.int (.negSucc 0) t)) Q E s:=by
 obtain⟨nG,pN⟩:=g7 mJ y (.int (.negSucc 0) t);have iv:=ho.inv;clear ho;induction o using V.casesOn with
 |loc l=>
  refine aK e fun pv q e=>aK e fun wv hq e=> ?_;rw[←qc (cW e)]at h;have l1:=lJ (cQ e);induction iv using iG.casesOn
  obtain⟨xs,ep,g,r,hp⟩:=H.rel.listAt (p:=pv.1) (vs:=pv.2) q;have e1:=r.length;rw[Cp _ hq]at r;obtain⟨ys,x,rfl,r1,r2⟩:=r.snoc;refine tail_any (T:="list") ⟨_,g,rfl⟩ PySem.F.slot_list_getitem.lookup (wpAny_getItem_list_neg (items:=(pv.1++(ys++[x])).toArray) ⟨_,g,rfl,ep,rfl⟩ (by decide) ?_ (by decide) ?_ (h x s.toks r2)) pN
  ·simp only[List.size_toArray,List.length_append,List.length_cons,List.length_nil];lia
  ·have:((Int.negSucc 0)+((pv.1++(ys++[x])).toArray.size:Int)).toNat=(pv.1++ys).length:=by
    simp only[List.size_toArray,List.length_append,List.length_cons,List.length_nil];lia
   rw[this,←List.append_assoc];simp
 |_=>exact nn e
theorem LA(H:au cx k A I σ st s)(ho:aq I cx.P σ st.length o y)(hi:aq I cx.P σ st.length i z)(e:zh st o i=some v)
  (h:∀x t,aq I cx.P σ st.length v x→Q x {s with toks:=t}):wpAny cx.M A (subscriptTail value mJ y z) Q E s:=by
 have iv:=hi.inv;clear hi;induction i using V.casesOn with
 |int n=>
  induction iv using fY.casesOn
  induction n using qJ with
  |ofNat j=>exact SX H ho e h
  |negSucc m=>induction m using qk with
   |zero=>exact OR H ho e h
   |succ=>exact nn e
 |str x=>
  induction iv using ou.casesOn with
  |mk t=>
   obtain⟨nG,pN⟩:=g7 mJ y (.str x t);refine aK e fun fs q e=> ?_;obtain⟨a,es,ep,rfl,g,r,_⟩:=xG H.rel ho q;have hm:=wg (cx:=cx) g r;obtain⟨u,hu,ru⟩:=(r.find x).1 v e;have fu:=tL es x r.noRef;rw[hu]at fu;exact tail_any (T:="dict") hm.typeIs slot_dict_getitem.lookup (wpAny_getItem_of (strKind_is cx.prog cx.w x t) hm (qc fu).symm (h u _ ru)) pN
 |_=>exact nn e
theorem DX(H:au cx k A I σ st s)(ho:aq I cx.P σ st.length (.lst vs) y)(e:Good cx.S cx.pre (.pick vs n .ok) R)
  (h:∀v x t,R v→aq I cx.P σ st.length v x→Q x {s with toks:=t}):wpAny cx.M A (subscriptTail value mJ y (.int n t)) Q E s:=by
 obtain⟨j,v,rfl,hv,hl,hR⟩:=e;obtain⟨nG,pN⟩:=g7 mJ y (.int (Int.ofNat j) t);replace ho:=ho.inv;induction ho using mU.casesOn with
 |mk gg rr=>
  rename_i a n xs
  have e1:=rr.length;have hj:j<vs.length:=(List.getElem?_eq_some_iff.mp hv).1;obtain⟨x,hx,rx⟩:=(rr.up (σ:=σ) (n:=st.length)).di ((gH vs j).trans hv);exact tail_any (T:="list") ⟨_,H.rel.sub _ _ gg,rfl⟩ PySem.F.slot_list_getitem.lookup (wpAny_getItem_list (items:=xs.toArray) ⟨_,H.rel.sub _ _ gg,rfl,n,rfl⟩ (Int.natCast_nonneg j) (by show(j:Int)<2^63;lia) (by simpa using hx) (h v x s.toks hR rx)) pN
theorem OT(H:au cx k A I σ st s)(ho:aq I cx.P σ st.length o y)(hi:aq I cx.P σ st.length i z)(e:Good cx.S cx.pre (DW st o i) R)
  (h:∀v x t,R v→aq I cx.P σ st.length v x→Q x {s with toks:=t}):wpAny cx.M A (subscriptTail value mJ y z) Q E s:=by
 have DY:Good cx.S cx.pre (Rb (zh st o i)) R→wpAny cx.M A (subscriptTail value mJ y z) Q E s:=fun e=>by
  obtain⟨v,q,hR⟩:=DQ e;exact LA H ho hi q fun x t=>h v x t hR
 induction o using V.casesOn with
 |lst vs=>
  have iv:=hi.inv;clear hi DY;induction i using V.casesOn with
  |int n=>induction iv using fY.casesOn;exact DX H ho e h
  |num n=>induction iv using fY.casesOn;exact DX H ho e h
  |_=>exact e.elim
 |_=>exact DY e
end
theorem DZ:(⟨hs,.str q t,z⟩::es:List DictEntry).findIdx? (fun e=>Value.isStrOf x e.key)=if seq x q then some 0 else(es.findIdx? fun e=>Value.isStrOf x e.key).map (· +1):=by
 rw[List.findIdx?_cons,show Value.isStrOf x (Value.str q t)=seq x q by rw[←W.isStr_of];exact sI x q t]
theorem bF.modify(hy:aq I P σ n v y):∀{es:List DictEntry} {i:Nat},bF I P σ n fs es→es.findIdx? (fun e=>Value.isStrOf x e.key)=some i→
  bF I P σ n (Mine.Internal.put x v fs) (es.modify i fun e=>{e with val:=y}):=by
 induction fs with
 |nil=>intro es i h e;replace h:=h.inv;subst h;exact nn e
 |cons a fs ih=>
  intro es i h e;replace h:=h.inv;induction h using gh.casesOn with
  |mk h r=>
   rw[DZ]at e;induction q:seq x a.1 using qd with
   |true=>rw[xC q];rw[q]at e;cases qc e;rw[List.modify_zero_cons];exact .cons hy r
   |false=>
    rw[rI q];rw[q]at e;obtain⟨j,hj,rfl⟩:=Option.map_eq_some_iff.mp e;rw[List.modify_succ_cons];exact .cons h (ih r hj)
theorem bF.snoc(hy:aq I P σ n v y):∀{es:List DictEntry},bF I P σ n fs es→es.findIdx? (fun e=>Value.isStrOf x e.key)=none→
  bF I P σ n (Mine.Internal.put x v fs) (es++[⟨PyData.keyHash P x,.str x t,y⟩]):=by
 induction fs with
 |nil=>intro es h e;replace h:=h.inv;subst h;exact .cons hy .nil
 |cons a fs ih=>
  intro es h e;replace h:=h.inv;induction h using gh.casesOn with
  |mk h r=>
   rw[DZ]at e;induction q:seq x a.1 using qd with
   |true=>rw[q]at e;exact ns e
   |false=>rw[rI q];rw[q]at e;exact .cons h (ih r (Option.map_eq_none_iff.mp e))
theorem D0(H:cG cx.P I σ st s.heap)(hv:aq I cx.P σ st.length v y)(e:dictAt st l=some fs)(hl:fs.length<500)
  (h:∀s',aM cx.P (fun _=>False) I σ st.length s.heap I σ (cF st l (.dict (put x v fs))) s'.heap→bw s s'→Q () s'):wpAny cx.M A (dictSet (σ l) (.str x t) y) Q E s:=by
 obtain⟨es,ep,g,rf⟩:=H.dictAt e;have hk:l<st.length:=(List.getElem?_eq_some_iff.mp (o9 e)).1;have ln:=rf.length;have VB:=strKind_is cx.prog cx.w x t;unfold dictSet
 try with_reducible refine wpAny_holding ?_
 refine wpAny_bind ((strKind cx.prog cx.w).pyHash VB ?_);unfold dictSetHashed
 try with_reducible refine wpAny_holding ?_
 refine wpAny_bind (wpAny_dictFind_of (knd:=strKind cx.prog cx.w) (s:={s with toks:=s.toks+1}) VB g rfl (pZ cx.w rfl cx.prog rf) ?_);have aaL:(es.toArray.findIdx? fun e=>(strKind cx.prog cx.w).is x e.key)=es.findIdx? fun e=>Value.isStrOf x e.key:=by rw[List.findIdx?_toArray];rfl
 rw[aaL];induction hi:es.findIdx? fun e=>Value.isStrOf x e.key using qe with
 |some i=>
  refine wpAny_bind (wpAny_rule (wpAny_bind (wpAny_updateDict (s:={s with toks:=s.toks+1}) g rfl (wpAny_point ?_))));have eq:Obj.mapDict (·.modify i fun e=>{e with val:=y}) (dictOf es ep)=dictOf (es.modify i fun e=>{e with val:=y}) ep:=by
   show(⟨_,_,.dict _ _,_⟩:Obj)=_;simp[dictOf]
  have ex:=aM.upd (ao:=.dict (put x v fs)) H hk g (f:=Obj.mapDict (·.modify i fun e=>{e with val:=y})) (by rw[eq];rfl) (by rw[eq];exact .dict ep (rf.modify hv hi));rw[←eH]at ex;exact h {s with heap:=_,toks:=_} ex ⟨rfl,rfl,rfl⟩
 |none=>
  refine wpAny_bind (wpAny_rule (wpAny_updateDictKeys (hz:=by show es.toArray.size≤sizeLine;rw[List.size_toArray,sizeLine_eq];lia) (s:={s with toks:=s.toks+1}) g rfl ?_));have eq:Obj.mapDictKeys (·.push ⟨PyData.keyHash cx.P x,.str x t,y⟩) (dictOf es ep)=dictOf (es++[⟨PyData.keyHash cx.P x,.str x t,y⟩]) (ep+1):=by
   show(⟨_,_,.dict _ _,_⟩:Obj)=_;simp[dictOf]
  have ex:=aM.upd (ao:=.dict (put x v fs)) H hk g (f:=Obj.mapDictKeys (·.push ⟨PyData.keyHash cx.P x,.str x t,y⟩)) (by rw[eq];rfl) (by rw[eq];exact .dict _ (rf.snoc hv hi));rw[←eH]at ex;exact h {s with heap:=_,toks:=_} ex ⟨rfl,rfl,rfl⟩
theorem LB(H:au cx k A I σ st s)(hv:aq I cx.P σ st.length v y)(e:dictAt st l=some fs)(hl:fs.length<500)
  (h:∀s',aM cx.P (fun _=>False) I σ st.length s.heap I σ (cF st l (.dict (put x v fs))) s'.heap→bw s s'→Q () s'):wpAny cx.M A (setItem (.ref (σ l)) (.str x t) y) Q E s:=by
 obtain⟨es,ep,g,rf⟩:=H.rel.dictAt e;have hT:s.TypeIs (.ref (σ l)) "dict":=⟨_,g,rfl⟩;unfold setItem
 try with_reducible refine wpAny_holding ?_
 refine wpAny_bind (wpAny_sequenceKey hT (by decide) ?_);refine wpAny_bind (wpAny_callSpecial?_slot (name:=Str.ofString "__setitem__") hT slot_dict_setitem
  (wpAny_call_entry slot_dict_setitem hT entry_dict_setitem ?_ (args_dict_setitem _ _ _)))
 show wpAny _ _ (Builtin.Dict.notOrdered "__setitem__" ⟨[.ref (σ l),.str x t,y],[]⟩>>=_) _ _ s;refine wpAny_bind (wpAny_notOrdered_dict hT ?_);show wpAny _ _ (dictSet (σ l) (.str x t) y>>=_) _ _ s;exact wpAny_bind (D0 H.rel hv e hl fun s' a b=>wpAny_pure ⟨.none,rfl,wpAny_pure (h s' a b)⟩)
noncomputable def LC(st:St)(l:Nat)(v:V):Int→Option St
 |.ofNat j=>cD (listAt st l) fun pv=>fH (eu pv.1) (fH (Nat.blt j (len pv.2)) (fH (Nat.blt (len pv.2) 500) (some (cF st l (.list [] (cF pv.2 j v))))))
 |.negSucc _=>none
noncomputable def D4(st:St)(o i v:V):Option St:=match o with
 |.loc l=>match i with
  |.int n=>LC st l v n
  |.str x=>cD (dictAt st l) fun fs=>fH (Nat.blt (len fs) 500) (some (cF st l (.dict (put x v fs))))
  |_=>none
 |_=>none
theorem aG.set(hy:aq I P σ n v y):∀{xs:LV} {j:Nat},aG I P σ n vs xs→aG I P σ n (vs.set j v) (xs.set j y):=by
 induction vs with
 |nil=>intro xs j h;replace h:=h.inv;subst h;exact .nil
 |cons a vs ih=>
  intro xs j h;replace h:=h.inv;induction h using dP.casesOn with
  |mk h r=>induction j using qk with
   |zero=>exact .cons hy r
   |succ j=>exact .cons h (ih r)
theorem SY(H:au cx k A I σ st s)(hu:aq I cx.P σ st.length v u)(e:LC st l v n=some st')
  (h:∀s',aM cx.P (fun _=>False) I σ st.length s.heap I σ st' s'.heap→bw s s'→Q () s'):wpAny cx.M A (setItem (.ref (σ l)) (.int n t) u) Q E s:=by
 induction n using qJ with
 |negSucc=>exact nn e
 |ofNat j=>
  refine aK e fun pv q e=> ?_;have e2:=cW e;have e3:=cW e2;rw[←qc (cW e3)]at h;obtain⟨xs,ep,g,r,hp⟩:=H.rel.listAt (p:=pv.1) (vs:=pv.2) q;have q':listAt st l=some ([],pv.2):=by rw[q,←cI (cQ e)]
  rw[cI (cQ e)]at g;have l1:=lJ (cQ e3);have e1:=r.length;have LD:j<pv.2.length:=by rw[←i6];exact qo (cQ e2)
  refine ki_setAt (n:=ep) g (Int.natCast_nonneg j) (by show(j:Int)<2^63;lia) (by show(j:Int)<_;simp only[List.nil_append,List.size_toArray];lia) ?_;refine kc (Q:=Q ()) (ys:=xs.set j u) (p:=[]) H q' g (by exact nz) ?_ (eH pv.2 j v▸r.set hu) h;simp
theorem OU(H:au cx k A I σ st s)(ho:aq I cx.P σ st.length o y)(hi:aq I cx.P σ st.length i z)(hu:aq I cx.P σ st.length v u)
  (e:D4 st o i v=some st')(h:∀s',aM cx.P (fun _=>False) I σ st.length s.heap I σ st' s'.heap→bw s s'→Q () s'):wpAny cx.M A (setItem y z u) Q E s:=by
 have iv:=ho.inv;have jv:=hi.inv;clear ho hi;induction o using V.casesOn with
 |loc l=>
  induction iv using iG.casesOn
  induction i using V.casesOn with
  |int n=>induction jv using fY.casesOn;exact SY H hu e h
  |str x=>
   induction jv using ou.casesOn
   refine aK e fun fs q e=> ?_;rw[←qc (cW e)]at h;exact LB H hu q (lJ (cQ e)) h
  |_=>exact nn e
 |_=>exact nn e
end
section
open PySem.SeqAt
noncomputable def rK:Int→Int→Bool:=fun a b=>match a with
 |.ofNat m=>match b with
  |.ofNat n=>Nat.beq m n
  |.negSucc _=>false
 |.negSucc m=>match b with
  |.ofNat _=>false
  |.negSucc n=>Nat.beq m n
theorem pe(a b:Int):(a==b)=rK a b:=by
 induction a using qJ with
 |ofNat m=>induction b using qJ with
  |ofNat n=>
   show((Int.ofNat m)==(Int.ofNat n))=Nat.beq m n;induction h:Nat.beq m n using qd with
   |true=>rw[qt h];exact beq_self_eq_true _
   |false=>exact beq_eq_false_iff_ne.mpr fun e=>Nat.ne_of_beq_eq_false h (Int.ofNat.inj e)
  |negSucc n=>rfl
 |negSucc m=>induction b using qJ with
  |ofNat n=>rfl
  |negSucc n=>
   show((Int.negSucc m)==(Int.negSucc n))=Nat.beq m n;induction h:Nat.beq m n using qd with
   |true=>rw[qt h];exact beq_self_eq_true _
   |false=>exact beq_eq_false_iff_ne.mpr fun e=>Nat.ne_of_beq_eq_false h (Int.negSucc.inj e)
noncomputable def VC:Int→Int→Bool:=fun a b=>match a with
 |.ofNat m=>match b with
  |.ofNat n=>Nat.blt m n
  |.negSucc _=>false
 |.negSucc m=>match b with
  |.ofNat _=>true
  |.negSucc n=>Nat.blt n m
theorem G0(m n:Nat):Nat.blt m n=decide (m<n):=by
 induction h:Nat.blt m n using qd with
 |true=>exact(decide_eq_true (qo h)).symm
 |false=>exact(decide_eq_false fun e=>by rw[show Nat.blt m n=true from Nat.ble_eq_true_of_le e]at h;exact tf h).symm
theorem LF(a b:Int):decide (a<b)=VC a b:=by
 induction a using qJ with
 |ofNat m=>induction b using qJ with
  |ofNat n=>
   show _=Nat.blt m n;rw[G0];exact decide_eq_decide.mpr Int.ofNat_lt
  |negSucc n=>
   show _=false;exact decide_eq_false (by show¬(m:Int)<_;lia)
 |negSucc m=>induction b using qJ with
  |ofNat n=>
   show _=true;exact decide_eq_true (by show _<(n:Int);lia)
  |negSucc n=>
   show _=Nat.blt n m;rw[G0];exact decide_eq_decide.mpr (by lia)
noncomputable def p5:Bool→Int:=fun b=>match b with
 |true=>1
 |false=>0
theorem kT(b:Bool):(if b then(1:Int)else 0)=p5 b:=by induction b using qd<;>rfl
inductive Pv where
 |none
 |bool (b:Bool)
 |int (i:Int)
 |str (s:Str)
inductive vJ:Pv→Value→Prop
 |none:vJ .none .none
 |bool (b:Bool):vJ (.bool b) (.bool b)
 |int (i:Int) (t:Tok):vJ (.int i) (.int i t)
 |str (s:Str) (t:Tok):vJ (.str s) (.str s t)
noncomputable def OV(v:V):Option Pv:=match v with
 |.none=>some .none
 |.bool b=>some (.bool b)
 |.int i=>some (.int i)
 |.str s=>some (.str s)
 |_=>none
theorem Rl(hv:aq I P σ n v y)(e:OV v=some p):vJ p y:=by
 have h:=hv.inv;clear hv;induction v using V.casesOn with
 |none=>subst h;obtain rfl:=qc e;exact .none
 |bool b=>subst h;obtain rfl:=qc e;exact .bool _
 |int i=>induction h using fY.casesOn;obtain rfl:=qc e;exact .int _ _
 |str s=>induction h using ou.casesOn;obtain rfl:=qc e;exact .str _ _
 |_=>exact nn e
noncomputable def VD(a b:Bool):Bool:=match a with
 |true=>b
 |false=>match b with
  |true=>false
  |false=>true
noncomputable def Z0(p q:Pv):Bool:=match p with
 |.none=>match q with
  |.none=>true
  |_=>false
 |.bool x=>match q with
  |.bool y=>VD x y
  |.int y=>rK (p5 x) y
  |_=>false
 |.int x=>match q with
  |.bool y=>rK x (p5 y)
  |.int y=>rK x y
  |_=>false
 |.str x=>match q with
  |.str y=>seq x y
  |_=>false
noncomputable def Rm(a b:V):Option Bool:=cD (OV a) fun p=>cD (OV b) fun q=>some (Z0 p q)
theorem S7(x y:Str):(x==y)=seq x y:=by
 induction h:seq x y using qd with
 |true=>exact beq_iff_eq.mpr (gz.mp h)
 |false=>exact beq_eq_false_iff_ne.mpr (iD.mp h)
theorem VE(a b:Bool):(a==b)=VD a b:=by induction a using qd<;>induction b using qd<;>rfl
noncomputable def xH:Value→Value→Bool
 |.none,.none=>true
 |.bool a,.bool b=>a==b
 |.bool a,.int b _=>p5 a==b
 |.int a _,.bool b=>a==p5 b
 |.int a _,.int b _=>a==b
 |.str a _,.str b _=>a==b
 |_,_=>false
structure uM (A:Around) (s:Shared) (y z:Value) (r:Bool):Prop where
 rc:RcAt A s y z r
 ne:RcNeAt A s y z (!r)
 at_:EqAt A s y z r
 val:xH y z=r
theorem S9(ha:vJ p y)(hb:vJ q z):uM A s y z (Z0 p q):=by
 induction ha using vJ.casesOn with
 |none=>induction hb using vJ.casesOn with
  |none=>exact⟨RcAt.none_none,RcNeAt.none_none,EqAt.same _,rfl⟩
  |bool=>exact⟨RcAt.none_bool _,RcNeAt.none_bool _,EqAt.none_bool _,rfl⟩
  |int=>exact⟨RcAt.none_int _ _,RcNeAt.none_int _ _,EqAt.none_int _ _,rfl⟩
  |str=>exact⟨RcAt.none_str _ _,RcNeAt.none_str _ _,EqAt.none_str _ _,rfl⟩
 |bool x=>induction hb using vJ.casesOn with
  |none=>exact⟨RcAt.bool_none _,RcNeAt.bool_none _,EqAt.bool_none _,rfl⟩
  |bool w=>show uM A s _ _ (VD x w);rw[←VE];exact⟨RcAt.bool_bool _ _,RcNeAt.bool_bool _ _,EqAt.bool_bool _ _,rfl⟩
  |int w t=>show uM A s _ _ (rK (p5 x) w);rw[←pe];exact⟨by rw[←kT];exact RcAt.bool_int _ _ _,by rw[←kT];exact RcNeAt.bool_int _ _ _,by rw[←kT];exact EqAt.bool_int _ _ _,rfl⟩
  |str=>exact⟨RcAt.bool_str _ _ _,RcNeAt.bool_str _ _ _,EqAt.bool_str _ _ _,rfl⟩
 |int x t=>induction hb using vJ.casesOn with
  |none=>exact⟨RcAt.int_none _ _,RcNeAt.int_none _ _,EqAt.int_none _ _,rfl⟩
  |bool w=>show uM A s _ _ (rK x (p5 w));rw[←pe];exact⟨by rw[←kT];exact RcAt.int_bool _ _ _,by rw[←kT];exact RcNeAt.int_bool _ _ _,by rw[←kT];exact EqAt.int_bool _ _ _,rfl⟩
  |int w t=>show uM A s _ _ (rK x w);rw[←pe];exact⟨RcAt.int_int _ _ _ _,RcNeAt.int_int _ _ _ _,EqAt.int_int _ _ _ _,rfl⟩
  |str=>exact⟨RcAt.int_str _ _ _ _,RcNeAt.int_str _ _ _ _,EqAt.int_str _ _ _ _,rfl⟩
 |str x t=>induction hb using vJ.casesOn with
  |none=>exact⟨RcAt.str_none _ _,RcNeAt.str_none _ _,EqAt.str_none _ _,rfl⟩
  |bool=>exact⟨RcAt.str_bool _ _ _,RcNeAt.str_bool _ _ _,EqAt.str_bool _ _ _,rfl⟩
  |int=>exact⟨RcAt.str_int _ _ _ _,RcNeAt.str_int _ _ _ _,EqAt.str_int _ _ _ _,rfl⟩
  |str w t=>show uM A s _ _ (seq x w);rw[←S7];exact⟨RcAt.str_str _ _ _ _,RcNeAt.str_str _ _ _ _,EqAt.str_str _ _ _ _,rfl⟩
theorem Bt(ha:aq I P σ n a y)(hb:aq I P σ n b z)(e:Rm a b=some r):uM A s y z r:=
 aK e fun _ p e=>aK e fun _ q e=>qc e▸S9 (Rl ha p) (Rl hb q)
noncomputable def OW(a:V):List V→Option Bool
 |[]=>some false
 |b::l=>cD (Rm b a) fun r=>cD (OW a l) fun q=>match r with
  |true=>some true
  |false=>some q
theorem Tc(ha:aq I P σ n a y)(vs:List V):
  ∀{xs:LV} {r:Bool},aG I P σ n vs xs→OW a vs=some r→(∀z,z∈xs→EqAt A s z y (xH z y))∧xs.any (fun z=>xH z y)=r:=by
 induction vs with
 |nil=>intro xs r rr e;cases rr.inv;obtain rfl:=qc e;exact⟨(fun _ h=>absurd h qL),rfl⟩
 |cons b vs ih=>
  intro xs r rr e;have q:=rr.inv;clear rr;induction q using dP.casesOn
  rename_i x xs h rr
  refine aK e fun r1 q1 e=>aK e fun r2 q2 e=> ?_;obtain⟨hf,hr⟩:=ih rr q2;have ea:=Bt (A:=A) (s:=s) h ha q1;refine⟨fun z hz=>(List.mem_cons.mp hz).elim (fun h'=> ?_) (hf z), ?_⟩
  ·rw[h',ea.val];exact ea.at_
  ·rw[List.any_cons,ea.val,hr];induction r1 using qd<;>exact qc e
noncomputable def zV(v:V):Option Bool:=match v with
 |.none=>some false
 |.bool b=>some b
 |_=>none
noncomputable def Bu(v:V):Option Bool:=match v with
 |.none=>some false
 |.aL y=>match y with
  |.ref _=>some true
  |_=>none
 |_=>some true
section
variable{cx:Cx}{st:St}
theorem pT(h:Q false s):wpAny M A (truthy .none) Q E s:=fun _ _ _=>h
theorem zj(hv:aq I cx.P σ st.length v y)(e:zV v=some b)(h:Q b s):wpAny cx.M A (truthy y) Q E s:=by
 replace hv:=hv.inv;induction v using V.casesOn with
 |none=>subst hv;exact pT (qc e▸h)
 |bool=>subst hv;exact wpAny_truthy_bool (qc e▸h)
 |_=>exact nn e
theorem zW(hv:aq I cx.P σ n v y)(e:Bu v=some b):(y==Value.none)= !b:=by
 have h:=hv.inv;clear hv;induction v using V.casesOn with
 |none=>subst h;obtain rfl:=qc e;rfl
 |aL w=>
  subst(h:y=w);induction y using PySem.Value.casesOn with
  |ref a=>obtain rfl:=qc e;rfl
  |_=>exact nn e
 |_=>cases h;obtain rfl:=qc e;rfl
end
noncomputable def wh(st:St)(v:V):Option (List V):=match v with
 |.lst vs=>some vs
 |.loc l=>cD (listAt st l) fun pv=>fH (eu pv.1) (some pv.2)
 |_=>none
noncomputable def Z1(st:St)(a b:V):Option Bool:=cD (wh st a) fun vs=>cD (wh st b) fun ws=>fH (eu ws) (some (eu vs))
noncomputable def IE(v:V):Option (Bool×Int):=match v with
 |.int x=>some (false,x)
 |.num x=>some (true,x)
 |_=>none
theorem int_at(hv:aq I P σ n v y)(e:IE v=some p):fY p.2 y:=by
 have h:=hv.inv;clear hv;induction v using V.casesOn with
 |int=>obtain rfl:=qc e;exact h
 |num=>obtain rfl:=qc e;exact h
 |_=>exact nn e
noncomputable def Td(a b:Bool):Bool:=match a with
 |true=>true
 |false=>b
noncomputable def IF(a b:V):Option (Bool×Int×Int):=cD (IE a) fun p=>cD (IE b) fun q=>some (Td p.1 q.1,p.2,q.2)
theorem xJ(ha:aq I P σ n a y)(hb:aq I P σ n b z)(e:IF a b=some p):fY p.2.1 y∧fY p.2.2 z:=
 aK e fun _ q1 e=>aK e fun _ q2 e=>qc e▸⟨int_at ha q1,int_at hb q2⟩
noncomputable def VF(a b:V):Option Bool:=cD (IF a b) fun p=>fH (i7 p.1) (some (VC p.2.1 p.2.2))
theorem Rn{a b:V}{y z:Value}{r:Bool}{G:Prop}(ha:aq I P σ n a y)(hb:aq I P σ n b z)(e:VF a b=some r)(h:∀i j,fY i y→fY j z→VC i j=r→G):G:=by
 exact aK e fun p q e=>h _ _ (xJ ha hb q).1 (xJ ha hb q).2 (qc (cW e))
noncomputable def zX(o:Option Bool)(f:Bool→Bool):Option V:=cD o fun b=>some (.bool (f b))
theorem kU(e:zX o f=some v):∃b,o=some b∧v=.bool (f b):=aK e fun b q e=>⟨b,q,(qc e).symm⟩
noncomputable def Bv:V→Bool:=fun v=>match v with
 |.none=>true
 |_=>false
noncomputable def Te{α:Type}(o:Option α):Bool:=match o with
 |some _=>true
 |none=>false
noncomputable def D5(st:St)(a b:V):Option Bool:=match a with
 |.str x=>cD (oB st b) fun fs=>some (Te (lk x fs))
 |_=>none
noncomputable def VG(st:St)(a b:V):Option Bool:=match b with
 |.tup vs=>OW a vs
 |_=>D5 st a b
noncomputable def Ro(st:St)(a b:V):Option Bool:=match Rm a b with
 |some r=>some r
 |none=>Z1 st a b
noncomputable def OX(st:St)(op:CmpOp)(a b:V):Option V:=match op with
 |.Is=>fH (Bv b) (zX (Bu a) i7)
 |.IsNot=>fH (Bv b) (zX (Bu a) fun b=>b)
 |.Eq=>zX (Ro st a b) fun b=>b
 |.NotEq=>zX (Ro st a b) i7
 |.Lt=>zX (VF a b) fun b=>b
 |.Gt=>zX (VF b a) fun b=>b
 |.In=>zX (VG st a b) fun b=>b
 |.NotIn=>zX (VG st a b) i7
 |_=>none
section
variable{cx:Cx}{I:IM}{σ:Nat→Addr}{st:St}{s:Shared}{E:dU}
theorem Cq(hb:aq I cx.P σ n b z)(e:Bv b=true):z=.none:=by
 have h:=hb.inv;clear hb;induction b using V.casesOn with
 |none=>exact h
 |_=>exact ft e
theorem listItems_at(r:cG cx.P I σ st h)(hv:aq I cx.P σ st.length v y)(e:wh st v=some vs):
  ∃a xs,y=.ref a∧h.IsList a xs.toArray∧aG I cx.P σ st.length vs xs:=by
 replace hv:=hv.inv;induction v using V.casesOn with
 |lst ws=>induction hv using mU.casesOn with|mk g q=>exact⟨_,_,rfl,⟨_,r.sub _ _ g,rfl,_,rfl⟩,(qc e:ws=vs)▸q.up⟩
 |loc l=>
  induction hv using iG.casesOn
  refine aK e fun pv q e=> ?_;obtain⟨xs,ep,g,rr,_⟩:=r.listAt (p:=pv.1) (vs:=pv.2) q;rw[cI (cQ e)]at g;exact⟨_,xs,rfl,⟨_,g,rfl,ep,rfl⟩,qc (cW e)▸rr⟩
 |_=>exact nn e
theorem VH(H:au cx k A I σ st s)(ha:aq I cx.P σ st.length a y)(hb:aq I cx.P σ st.length b z)(e:Z1 st a b=some r):RcAt A s y z r∧RcNeAt A s y z (!r):=by
 have hu:A.units<cLine:=by have:=H.fit.units;lia
 refine aK e fun vs q1 e=>aK e fun ws q2 e=> ?_;obtain⟨c,xs,rfl,il,rl⟩:=listItems_at H.rel ha q1;obtain⟨d,ys,rfl,Rp,Rq⟩:=listItems_at H.rel hb q2;rw[cI (cQ e)]at Rq;replace Rq:=Rq.inv;subst Rq;rw[←qc (cW e)];have Z2:=rl.inv;induction vs using qh with
 |nil=>rw[show xs=[]from Z2]at il;exact⟨RcAt.lists (e:=fun _=>true) il Rp rfl hu (fun j h1=>absurd h1 (qp _)),RcNeAt.lists (e:=fun _=>true) il Rp rfl hu (fun j h1=>absurd h1 (qp _))⟩
 |cons=>induction Z2 using dP.casesOn with|mk h rr=>exact⟨RcAt.lists_lengths il Rp rfl hu,RcNeAt.lists_lengths il Rp rfl hu⟩
theorem LG(H:au cx k A I σ st s)(ha:aq I cx.P σ st.length a y)(hb:aq I cx.P σ st.length b z)(e:Ro st a b=some r):RcAt A s y z r∧RcNeAt A s y z (!r):=by
 rw[Ro]at e;induction q:Rm a b using qe with
 |some r'=>rw[q]at e;exact qc e▸⟨(Bt ha hb q).rc,(Bt ha hb q).ne⟩
 |none=>rw[q]at e;exact VH H ha hb e
theorem IG(H:au cx k A I σ st s)(ha:aq I cx.P σ st.length a y)(hb:aq I cx.P σ st.length b z)(e:D5 st a b=some r):
  (∀Q:dU,(∀t,Q (.bool r) {s with toks:=t})→wpAny cx.M A (compareOp .In y z) Q E s)∧(∀Q:dU,(∀t,Q (.bool (!r)) {s with toks:=t})→wpAny cx.M A (compareOp .NotIn y z) Q E s):=by
 replace ha:=ha.inv;induction a using V.casesOn with
 |str x=>
  induction ha using ou.casesOn with
  |mk t=>
   refine aK e fun fs q e=> ?_;obtain⟨a,es,ep,rfl,g,rr,rL⟩:=xG H.rel hb q;have hm:=wg (cx:=cx) g rr;have fu:=tL es x rr.noRef;have key:(findBy Value.isStrOf es.toArray x).isSome=r:=by
    rw[←qc e];induction hv:lk x fs using qe with
    |some v=>obtain⟨u,hu,_⟩:=(rr.find x).1 v hv;rw[hu]at fu;rw[←qc fu];rfl
    |none=>rw[(rr.find x).2 hv]at fu;rw[←qc fu];rfl
   exact⟨fun Q h=>wpAny_in_of (knd:=strKind cx.prog cx.w) (strKind_is cx.prog cx.w x t) (rL H.base) hm (key▸h _),fun Q h=>wpAny_notIn_of (knd:=strKind cx.prog cx.w) (strKind_is cx.prog cx.w x t) (rL H.base) hm (key▸h _)⟩
 |_=>exact nn e
theorem Rr(H:au cx k A I σ st s)(ha:aq I cx.P σ st.length a y)(hb:aq I cx.P σ st.length b z)(e:VG st a b=some r):
  (∀Q:dU,(∀t,Q (.bool r) {s with toks:=t})→wpAny cx.M A (compareOp .In y z) Q E s)∧(∀Q:dU,(∀t,Q (.bool (!r)) {s with toks:=t})→wpAny cx.M A (compareOp .NotIn y z) Q E s):=by
 induction b using V.casesOn with
 |tup vs=>
  replace hb:=hb.inv;induction hb using iV.casesOn with
  |mk g q=>
   rename_i a' n xs
   have it:s.heap.IsTuple a' xs.toArray:=⟨_,H.rel.sub _ _ g,rfl,n,rfl⟩;obtain⟨h1,h2⟩:=Tc (A:=A.in1) (s:=s) ha _ q e;have h3:xs.toArray.any (fun z=>xH z y)=r:=(List.any_toArray ..).trans h2;exact⟨fun Q h=>in_tupleAt (fun z=>xH z y) it (fun z hz=>h1 z (List.mem_toArray.mp hz)) (h3.symm▸h s.toks),fun Q h=>notIn_tupleAt (fun z=>xH z y) it (fun z hz=>h1 z (List.mem_toArray.mp hz)) (h3.symm▸h s.toks)⟩
 |_=>exact IG H ha hb e
theorem G1{y z:Value}{Q:dU}(H:au cx k A I σ st s)(ha:aq I cx.P σ st.length a y)(hb:aq I cx.P σ st.length b z)(e:OX st op a b=some v)
  (h:∀x t,aq I cx.P σ st.length v x→Q x {s with toks:=t}):wpAny cx.M A (compareOp op y z) Q E s:=by
 induction op using PySem.CmpOp.casesOn with
 |Is=>
  obtain⟨b',h1,rfl⟩:=kU (cW e);rw[Cq hb (cQ e)];exact is_none (by rw[zW ha h1,wc];exact h _ s.toks (.bool _))
 |IsNot=>
  obtain⟨b',h1,rfl⟩:=kU (cW e);rw[Cq hb (cQ e)];exact isNot_none (by rw[zW ha h1,Bool.not_not];exact h _ s.toks (.bool _))
 |Eq=>
  obtain⟨b',h1,rfl⟩:=kU e;exact(LG H ha hb h1).1 _ _ _ _ (h _ s.toks (.bool _))
 |NotEq=>
  obtain⟨b',h1,rfl⟩:=kU e;exact(LG H ha hb h1).2 _ _ _ _ (by rw[wc];exact h _ s.toks (.bool _))
 |Lt=>
  obtain⟨b',h1,rfl⟩:=kU e;refine Rn ha hb h1 fun i j hi hj hr=> ?_;induction hi using fY.casesOn;induction hj using fY.casesOn
  exact P.lt_int (by rw[LF,hr];exact h _ s.toks (.bool _))
 |Gt=>
  obtain⟨b',h1,rfl⟩:=kU e;refine Rn hb ha h1 fun i j hi hj hr=> ?_;induction hi using fY.casesOn;induction hj using fY.casesOn
  exact P.gt_int (by show Q (.bool (decide (_<_))) s;rw[LF,hr];exact h _ s.toks (.bool _))
 |In=>
  obtain⟨b',h1,rfl⟩:=kU e;exact(Rr H ha hb h1).1 _ fun t=>h _ t (.bool _)
 |NotIn=>
  obtain⟨b',h1,rfl⟩:=kU e;exact(Rr H ha hb h1).2 _ fun t=>by rw[wc];exact h _ t (.bool _)
 |_=>exact nn e
end
noncomputable def LH(op:CmpOp)(x y:Int):Option V:=match op with
 |.Eq=>some (.nC (x==y))
 |.NotEq=>some (.nC (!(x==y)))
 |.Lt=>some (.nC (decide (x<y)))
 |.Gt=>some (.nC (decide (y<x)))
 |_=>none
noncomputable def OY(st:St)(op:CmpOp)(a b:V):Option V:=match IF a b with
 |some p=>match p.1 with
  |true=>LH op p.2.1 p.2.2
  |false=>OX st op a b
 |none=>OX st op a b
noncomputable def II(st:St)(v:V):aA (Bool×St):=match v with
 |.none=>.ok (false,st)
 |.bool b=>.ok (b,st)
 |.nC b=>.fork b fun c=>.ok (c,st)
 |_=>.bad
section
variable{cx:Cx}{k:Nat}{A:Around}{I:IM}{σ:Nat→Addr}{st:St}{s:Shared}{E:dU}
theorem LI(ha:fY i y)(hb:fY j z)(e:LH op i j=some v)
  (h:∀x t,aq I cx.P σ st.length v x→Q x {s with toks:=t}):wpAny cx.M A (compareOp op y z) Q E s:=by
 induction ha using fY.casesOn;induction hb using fY.casesOn
 induction op using PySem.CmpOp.casesOn with
 |Eq=>obtain rfl:=qc e;exact RcAt.int_int _ _ _ _ _ _ _ _ (h _ s.toks (.nC _))
 |NotEq=>obtain rfl:=qc e;exact RcNeAt.int_int _ _ _ _ _ _ _ _ (h _ s.toks (.nC _))
 |Lt=>obtain rfl:=qc e;exact P.lt_int (h _ s.toks (.nC _))
 |Gt=>obtain rfl:=qc e;exact P.gt_int (h _ s.toks (.nC _))
 |_=>exact nn e
theorem D6(H:au cx k A I σ st s)(ha:aq I cx.P σ st.length a y)(hb:aq I cx.P σ st.length b z)(e:OY st op a b=some v)
  (h:∀x t,aq I cx.P σ st.length v x→Q x {s with toks:=t}):wpAny cx.M A (compareOp op y z) Q E s:=by
 unfold OY at e;induction hp:IF a b using qe with
 |none=>rw[hp]at e;exact G1 H ha hb e h
 |some p=>
  rw[hp]at e;dsimp only at e;induction q:p.1 using qd with
  |false=>rw[q]at e;exact G1 H ha hb e h
  |true=>rw[q]at e;exact LI (xJ ha hb hp).1 (xJ ha hb hp).2 e h
theorem G2(hv:aq I cx.P σ st.length v y)(e:Good cx.S cx.pre (II st v) R)(h:∀b,R (b,st)→Q b s):wpAny cx.M A (truthy y) Q E s:=by
 replace hv:=hv.inv;induction v using V.casesOn with
 |none=>subst hv;exact pT (h _ e)
 |bool=>subst hv;exact wpAny_truthy_bool (h _ e)
 |nC=>subst hv;exact wpAny_truthy_bool (h _ e)
 |_=>exact e.elim
end
abbrev EV(cx:Cx)(I:IM)(σ:Nat→Addr)(st:St)(s:Shared)(Q:dU):V×St→Prop:=Ends cx (fun _=>False) I σ st.length s (RV cx) Q
section
variable{cx:Cx}{st:St}
theorem EV.tok(e:EV cx I σ st s Q (v,st))(H:au cx k A I σ st s)(r:aq I cx.P σ st.length v y)(t:Nat):Q y {s with toks:=t}:=
 e I σ y {s with toks:=t} (aM.refl H.rel) ⟨rfl,rfl,rfl⟩ r
theorem EV.ext(e:EV cx I σ st s Q (v,st'))(x:aM cx.P (fun _=>False) I σ st.length s.heap I σ st' s'.heap)(sm:bw s s')(r:aq I cx.P σ st'.length v y):Q y s':=
 e I σ y s' x sm r
theorem EV.DS(e:EV cx I σ st s Q (v,st))(H:au cx k A I σ st s)(ho:o.isFreed=false)(t:Nat)
  (r:aq (dW I s.heap.objs.size o) cx.P σ st.length v (.ref s.heap.objs.size)):Q (.ref s.heap.objs.size) {s with heap:=s.heap.push o,toks:=t}:=
 e (dW I s.heap.objs.size o) σ _ {s with heap:=s.heap.push o,toks:=t} (aM.Y0 H.rel ho) ⟨rfl,rfl,rfl⟩ r
theorem Y3(H:au cx k A I σ st s)(o:Obj):Le I (dW I s.heap.objs.size o) σ σ st.length st.length:=
 ⟨lI o (H.rel.pX (dD _)),fun _ _=>rfl,qf _⟩
theorem D7(σ:Nat→Addr)(st:St)(I:IM)(a:Addr):Le I I σ (gj σ st.length a) st.length (st.length+1):=Bl ..
theorem EV.Bm(e:EV cx I σ st s Q (.loc st.length,st++[ao]))(H:au cx k A I σ st s)(ho:o.isFreed=false)(t:Nat)
  (r:dw I cx.P (gj σ st.length s.heap.objs.size) (st.length+1) ao o):Q (.ref s.heap.objs.size) {s with heap:=s.heap.push o,toks:=t}:=
 e I (gj σ st.length s.heap.objs.size) _ {s with heap:=s.heap.push o,toks:=t} (aM.zQ H.rel ho r) ⟨rfl,rfl,rfl⟩ (by
  have:=aq.loc (I:=I) (P:=cx.P) (σ:=gj σ st.length s.heap.objs.size) (n₀:=(st++[ao]).length) st.length (by simp);rw[eG]at this;exact this)
noncomputable def Cr(v:V):Option (Bool×Int):=match v with
 |.int i=>some (false,i)
 |.num i=>some (true,i)
 |_=>none
noncomputable def zY(s:Bool)(i:Int):V:=match s with
 |true=>.num i
 |false=>.int i
noncomputable def Cs(a b:Bool):Bool:=match a with
 |true=>true
 |false=>b
theorem t9(r:aq I P σ n v y)(e:Cr v=some p):∃t,y=.int p.2 t:=by
 have h:=r.inv;clear r;induction v using V.casesOn with
 |int=>obtain rfl:=qc e;induction h using fY.casesOn with|mk t=>exact⟨t,rfl⟩
 |num=>obtain rfl:=qc e;induction h using fY.casesOn with|mk t=>exact⟨t,rfl⟩
 |_=>exact nn e
theorem m8(s:Bool)(i:Int)(t:Tok):aq I P σ n (zY s i) (.int i t):=by
 induction s using qd
 ·exact .int i t
 ·exact .num i t
noncomputable def eV(a b:Bool):Bool:=match a with
 |true=>b
 |false=>false
theorem bk(h:eV a b=true):a=true∧b=true:=by induction a using qd with|true=>exact⟨rfl,h⟩|false=>exact ft h
mutual
noncomputable def kC(c:Nat):V→Bool
 |.loc k=>Nat.blt k c
 |.tup vs=>uN c vs
 |.jw _ fs=>pO c fs
 |_=>true
noncomputable def uN(c:Nat):List V→Bool
 |[]=>true
 |v::vs=>eV (kC c v) (uN c vs)
noncomputable def pO(c:Nat):ai→Bool
 |[]=>true
 |v::vs=>eV (kC c v.2) (pO c vs)
end
theorem dh(h:kC c v=true)(h2:uN c vs=true):uN c (v::vs)=true:=by
 show eV _ _=true;rw[h];exact h2
noncomputable abbrev aJ:V→Bool:=kC 0
noncomputable abbrev bB:List V→Bool:=uN 0
section
theorem oE(li:f7 I I')(ls:∀k,k<c→af k=σ k)(hm:c≤m)(h:aq I P σ n v x)(e:kC c v=true):aq I' P af m v x:=
 V.rec (motive_1:=fun v=>∀x,aq I P σ n v x→kC c v=true→aq I' P af m v x) (motive_2:=fun v=>∀x,aG I P σ n v x→uN c v=true→aG I' P af m v x)
  (motive_3:=fun v=>∀x,iW I P σ n v x→pO c v=true→iW I' P af m v x) (motive_4:=fun v=>∀x,aq I P σ n v.2 x→kC c v.2=true→aq I' P af m v.2 x)
  (fun _ h _=>h) (fun _ _ h _=>h) (fun _ _ h _=>h) (fun _ _ h _=>h) (fun _ _ h _=>h) (fun _ _ h _=>h) (fun _ _ h _=>h)
  (fun _ _ h e=>iG.imp (fun _=>⟨ls _ (Nat.blt_eq.mp e),qy (Nat.blt_eq.mp e) hm⟩) h) (fun _ ih _ h e=>iV.imp li (fun _ h=>ih _ h e) h) (fun _ _ _ h _=>mU.imp li (fun _ r=>r.mono (Le.zero li)) h)
  (fun _ _ _ _ h _=>pV.imp li (fun _ r=>r.mono (Le.zero li)) h) (fun _ _ _ h _=>tG.imp li (fun _ r=>r.mono (Le.zero li)) h) (fun _ _ h _=>uJ.imp li h) (fun _ _ ih _ h e=>rC.imp li (fun _ h=>ih _ h e) h)
  (fun _ _ h _=>h) (fun _ _ h _=>h) (fun _ _ h _=>h)
  (fun _ h _=>h) (fun _ _ a b _ h e=>dP.imp (fun _ h=>a _ h (bk e).1) (fun _ h=>b _ h (bk e).2) h) (fun _ h _=>h)
  (fun _ _ a b _ h e=>nD.imp li (fun _ h=>a _ h (bk e).1) (fun _ h=>b _ h (bk e).2) h) (fun _ _ ih=>ih) v x h e
theorem D8(li:f7 I I')(ls:∀k,k<c→af k=σ k)(hm:c≤m):∀{x:LV},aG I P σ n v x→uN c v=true→aG I' P af m v x:=by
 induction v with
 |nil=>intro x h _;replace h:=h.inv;subst h;exact .nil
 |cons a v ih=>intro x h e;replace h:=h.inv;induction h using dP.casesOn with|mk h r=>exact .cons (oE li ls hm h (bk e).1) (ih r (bk e).2)
theorem D9(li:f7 I I')(ls:∀k,k<c→af k=σ k)(hm:c≤m):∀{x:List DictEntry},bF I P σ n v x→pO c v=true→bF I' P af m v x:=by
 induction v with
 |nil=>intro x h _;replace h:=h.inv;subst h;exact .nil
 |cons a v ih=>intro x h e;replace h:=h.inv;induction h using gh.casesOn with|mk h r=>exact .cons (oE li ls hm h (bk e).1) (ih r (bk e).2)
theorem kg(h:aq I P σ n v x)(e:aJ v=true):aq I P (fun _=>0) 0 v x:=oE (fun _ _ e=>e) (fun k q=>absurd q (qp k)) (qf 0) h e
theorem mj(h:aG I P σ n v x)(e:bB v=true):aG I P (fun _=>0) 0 v x:=D8 (fun _ _ e=>e) (fun k q=>absurd q (qp k)) (qf 0) h e
end
noncomputable def strOf(v:V):Option Str:=match v with
 |.str x=>some x
 |_=>none
noncomputable def uO(v:V):Option Nat:=match v with
 |.loc l=>some l
 |_=>none
noncomputable def Ea(v:V):Option Int:=match v with
 |.int i=>some i
 |_=>none
noncomputable def Dq(v:V):Option (List V):=match v with
 |.tup vs=>some vs
 |_=>none
section
variable{P:Params}
theorem Eb(hv:aq I P σ n v y)(e:strOf v=some x):ou x y:=by
 have h:=hv.inv;clear hv;induction v using V.casesOn with
 |str=>exact qc e▸h
 |_=>exact nn e
theorem uc(hv:aq I P σ n v y)(e:uO v=some l):iG σ n l y:=by
 have h:=hv.inv;clear hv;induction v using V.casesOn with
 |loc=>exact qc e▸h
 |_=>exact nn e
theorem zZ(hv:aq I P σ n v y)(e:Ea v=some i):fY i y:=by
 have h:=hv.inv;clear hv;induction v using V.casesOn with
 |int=>exact qc e▸h
 |_=>exact nn e
theorem Ec(hv:aq I P σ n v y)(e:Dq v=some vs):iV I (aG I P σ n vs) y:=by
 have h:=hv.inv;clear hv;induction v using V.casesOn with
 |tup=>exact qc e▸h
 |_=>exact nn e
end
noncomputable def orElse{α:Type}(o:Option α)(x:α):α:=match o with
 |some v=>v
 |none=>x
noncomputable def pg(st:St)(v:V):Option (List V):=match v with
 |.lst vs=>some vs
 |.loc l=>cD (listAt st l) fun pv=>fH (eu pv.1) (fH (bB pv.2) (some pv.2))
 |_=>none
theorem z4(r:cG cx.P I σ st h)(hv:aq I cx.P σ st.length v y)(e:pg st v=some vs):
  ∃a xs ep,y=.ref a∧h.get? a=some {cls:=.type "list",data:=.seq xs.toArray ep}∧aG I cx.P (fun _=>0) 0 vs xs:=by
 replace hv:=hv.inv;induction v using V.casesOn with
 |lst ws=>induction hv using mU.casesOn with|mk g q=>exact⟨_,_,_,rfl,r.sub _ _ g,(qc e:ws=vs)▸q⟩
 |loc l=>
  induction hv using iG.casesOn
  refine aK e fun pv q e=> ?_;obtain⟨xs,ep,g,rr,_⟩:=r.listAt (p:=pv.1) (vs:=pv.2) q;rw[cI (cQ e)]at g;exact⟨_,xs,ep,rfl,g,qc (cW (cW e))▸mj rr (cQ (cW e))⟩
 |_=>exact nn e
noncomputable def binI(op:Operator)(s:Bool)(x y:Int):aA V:=match op with
 |.Add=>.ok (zY s (x+y))
 |.Sub=>.ok (zY s (x-y))
 |.Mult=>.need (IntMulOk x y) (.ok (zY s (x*y)))
 |.Mod=>dR (i7 (rK y 0)) (.ok (zY s (x.fmod y)))
 |.FloorDiv=>dR (i7 (rK y 0)) (.need (¬(Builtin.divisionGoesByPylong x y)=true) (.ok (zY s (x.fdiv y))))
 |.Pow=>.need (0≤y∧(Builtin.Int.intBits x:Int)*y≤2^27) (.ok (zY s (x^y.toNat)))
 |_=>.bad
noncomputable def VI(n:Int)(vs:List V):aA V:=match rK n 0 with
 |true=>.ok (.lst [])
 |false=>dR (rK n 1) (.ok (.lst vs))
noncomputable def VJ(st:St)(op:Operator)(a b:V):aA V:=match op with
 |.Add=>cz (pg st a) fun vs=>cz (pg st b) fun ws=>.need (vs.length+ws.length<1000) (.ok (.lst (vs++ws)))
 |.Mult=>cz (pg st a) fun vs=>cz (Ea b) fun n=>.need (vs.length<1000) (VI n vs)
 |_=>.bad
noncomputable def Rt(op:Operator)(x:Str)(b:V):aA V:=match op with
 |.Add=>cz (strOf b) fun y=>.need ((x++y).length≤sizeLine) (.ok (.str (x++y)))
 |_=>.bad
noncomputable def OZ(st:St)(op:Operator)(a b:V):aA V:=match Cr a with
 |some p=>cz (Cr b) fun q=>binI op (Cs p.1 q.1) p.2 q.2
 |none=>match strOf a with
  |some x=>Rt op x b
  |none=>VJ st op a b
theorem Gw{x y:Str}(h:(x.length==0)=true):x++y=y:=by
 have:x.cps.size=0:=by simpa[Str.length]using h
 show(⟨x.cps++y.cps⟩:Str)=y;have:x.cps= #[]:=Array.eq_empty_of_size_eq_zero this;rw[this];simp
theorem Gx{x y:Str}(h:(y.length==0)=true):x++y=x:=by
 have:y.cps.size=0:=by simpa[Str.length]using h
 show(⟨x.cps++y.cps⟩:Str)=x;have:y.cps= #[]:=Array.eq_empty_of_size_eq_zero this;rw[this];rfl
theorem uP(H:au cx k A I σ st s)(r:aG I cx.P (fun _=>0) 0 vs xs)(e:EV cx I σ st s Q (.lst vs,st)):
  Q (.ref s.heap.objs.size) {s with heap:=s.heap.push {cls:=.type "list",data:=.seq xs.toArray}}:=
 EV.DS e H rfl s.toks (.lst (kQ ..) (r.mono (Le.zero (lI _ (H.rel.pX (dD _))))))
theorem IJ(H:au cx k A I σ st s)(ga:s.heap.get? a=some {cls:=.type "list",data:=.seq xs.toArray n})(gb:s.heap.get? b=some {cls:=.type "list",data:=.seq ys.toArray m})
  (ra:aG I cx.P (fun _=>0) 0 vs xs)(rb:aG I cx.P (fun _=>0) 0 ws ys)(hl:vs.length+ws.length<1000)(e:EV cx I σ st s Q (.lst (vs++ws),st)):wpAny cx.M A (binaryOp .Add (.ref a) (.ref b)) Q E s:=by
 have e1:=ra.length;have e2:=rb.length;have q:xs.toArray++ys.toArray=(xs++ys).toArray:=by simp
 refine concat_meets ⟨_,ga,rfl⟩ ⟨_,gb,rfl⟩ noFill_list_add seq_list_add PySem.F.slot_list_add PySem.F.entry_list_add (PySem.F.args_list_add_2 _ _) (list_addW a b xs.toArray ys.toArray n m none none #[] #[] (by simp only[List.size_toArray,sizeLine_eq];lia)) ⟨ga,gb, ?_⟩;rw[q];exact uP H (ra.append rb) e
theorem z5(H:au cx k A I σ st s)(ga:s.heap.get? a=some {cls:=.type "list",data:=.seq xs.toArray n})
  (hl:vs.length<1000)(ra:aG I cx.P (fun _=>0) 0 vs xs)(hx:(x=0∧EV cx I σ st s Q (.lst [],st))∨(x=1∧EV cx I σ st s Q (.lst vs,st))):wpAny cx.M A (binaryOp .Mult (.ref a) (.int x u)) Q E s:=by
 have e1:=ra.length;have Ru:xs.toArray.size*x.toNat≤2^24:=by
  rcases hx with⟨rfl,_⟩|⟨rfl,_⟩
  ·exact nz
  ·simp;lia
 refine wpAny_binaryOp_repeat_ref (T:="list") (U:="int") (by decide) ⟨_,ga,rfl⟩ (fun s'=>typeIs_int s' x u) noFill_list_mul F.fills_int_mul F.slot_int_rmul repeat_list F.slot_int_index.lookup
  (call_meets F.slot_int_rmul (typeIs_int s x u) F.entry_int_rmul (F.args_int_rmul_2 _ _) (int___rmul___int_list x u a xs.toArray n)
   ⟨ga,rfl,⟨_,ga,rfl⟩,call_meets F.slot_list_mul ⟨_,ga,rfl⟩ F.entry_list_mul (F.args_list_mul_2 _ _)
    (AutoListH.list___mul___list_int_3 a xs.toArray n x u (by rcases hx with⟨rfl,_⟩|⟨rfl,_⟩<;>trivial) (by lia) (by simp only[Builtin.List.listTooLong,sizeLine];simp;assumption))
    ⟨ga, ?_⟩⟩)
 rcases hx with⟨rfl,e⟩|⟨rfl,e⟩
 ·have:List.foldl (fun x1 x2=>x1++x2) #[] (List.replicate (if xs.toArray.isEmpty=true then 0 else(0:Int).toNat) xs.toArray)=([]:LV).toArray:=by
   split<;>rfl
  rw[this];exact uP H .nil e
 ·have:List.foldl (fun x1 x2=>x1++x2) #[] (List.replicate (if xs.toArray.isEmpty=true then 0 else(1:Int).toNat) xs.toArray)=xs.toArray:=by
   induction xs using qh with
   |nil=>rfl
   |cons y ys=>
    show List.foldl (fun x1 x2=>x1++x2) #[] (List.replicate 1 _)=_;simp
  rw[this];exact uP H ra e
theorem Tf(H:au cx k A I σ st s)(g:Good cx.S cx.pre (binI op c x y) fun v=>EV cx I σ st s Q (v,st)):wpAny cx.M A (binaryOp op (.int x t) (.int y u)) Q E s:=by
 have nz:∀{y:Int},i7 (rK y 0)=true→¬(y==0)=true:=fun q e=>by rw[(pe _ _).symm.trans e]at q;exact ft q
 induction op using PySem.Operator.casesOn with
 |Add=>exact P.add_int (EV.tok g H (m8 _ _ _) _)
 |Sub=>exact P.sub_int (EV.tok g H (m8 _ _ _) _)
 |Mult=>exact P.mul_int (hm:=g.1) (EV.tok g.2 H (m8 _ _ _) _)
 |Mod=>obtain⟨q,g⟩:=bA g;exact AutoIntOps.mod_1 (nz q) (EV.tok g H (m8 _ _ _) _)
 |FloorDiv=>obtain⟨q,g⟩:=bA g;exact AutoIntOps.floordiv_1 (nz q) g.1 (EV.tok g.2 H (m8 _ _ _) _)
 |Pow=>exact pow_int g.1.1 g.1.2 (EV.tok g.2 H (m8 _ _ _) _)
 |_=>exact g.elim
theorem Tg(H:au cx k A I σ st s)(ha:aq I cx.P σ st.length a y)(hb:aq I cx.P σ st.length b z)
  (g:Good cx.S cx.pre (VJ st op a b) fun v=>EV cx I σ st s Q (v,st)):wpAny cx.M A (binaryOp op y z) Q E s:=by
 induction op using PySem.Operator.casesOn with
 |Add=>
  refine aN g fun vs q1 g=>aN g fun ws q2 g=> ?_;obtain⟨a',xs,n,rfl,ga,ra⟩:=z4 H.rel ha q1;obtain⟨b',ys,m,rfl,gb,rb⟩:=z4 H.rel hb q2;exact IJ H ga gb ra rb g.1 g.2
 |Mult=>
  refine aN g fun vs q1 g=>aN g fun n q2 g=> ?_;obtain⟨a',xs,m,rfl,ga,ra⟩:=z4 H.rel ha q1;induction zZ hb q2 using fY.casesOn
  obtain⟨g1,g2⟩:=g;rw[VI]at g2;induction hn:rK n 0 using qd with
  |true=>rw[hn]at g2;exact z5 H ga g1 ra (.inl ⟨beq_iff_eq.mp ((pe _ 0).trans hn),g2⟩)
  |false=>
   rw[hn]at g2;obtain⟨hn,g2⟩:=bA g2;exact z5 H ga g1 ra (.inr ⟨beq_iff_eq.mp ((pe _ 1).trans hn),g2⟩)
 |_=>exact g.elim
theorem Th{b:V}{z:Value}{t:Tok}(H:au cx k A I σ st s)(hb:aq I cx.P σ st.length b z)(g:Good cx.S cx.pre (Rt op x b) fun v=>EV cx I σ st s Q (v,st)):wpAny cx.M A (binaryOp op (.str x t) z) Q E s:=by
 induction op using PySem.Operator.casesOn with
 |Add=>
  refine aN g fun y hy g=> ?_;induction Eb hb hy using ou.casesOn
  obtain⟨g1,g2⟩:=g;have fin:∀u w n,u=x++y→Q (.str u w) {s with toks:=n}:=fun u w n e=>EV.tok g2 H (e▸.str _ _) _;refine P.add_str ?_
  split
  ·exact fin _ _ _ (Gw ‹_›).symm
  ·split
   ·exact fin _ _ _ (Gx ‹_›).symm
   ·exact⟨g1,fin _ _ _ rfl⟩
 |_=>exact g.elim
theorem VK(H:au cx k A I σ st s)(ha:aq I cx.P σ st.length a y)(hb:aq I cx.P σ st.length b z)
  (g:Good cx.S cx.pre (OZ st op a b) fun v=>EV cx I σ st s Q (v,st)):wpAny cx.M A (binaryOp op y z) Q E s:=by
 rw[OZ]at g;induction hp:Cr a using qe with
 |some p=>
  rw[hp]at g;refine aN g fun q hq g=> ?_;obtain⟨t,rfl⟩:=t9 ha hp;obtain⟨u,rfl⟩:=t9 hb hq;exact Tf H g
 |none=>
  rw[hp]at g;induction hx:strOf a using qe with
  |some x=>rw[hx]at g;induction Eb ha hx using ou.casesOn;exact Th H hb g
  |none=>rw[hx]at g;exact Tg H ha hb g
theorem LJ(H:au cx k A I σ st s)(r:aG I cx.P σ st.length vs xs)(e:EV cx I σ st s Q (.tup vs,st)):
  Q (.ref s.heap.objs.size) {s with heap:=s.heap.push {cls:=.type "tuple",data:=.seq xs.toArray}}:=
 EV.DS e H rfl s.toks (.tup (kQ ..) (r.mono (Y3 H _)))
theorem O0(H:au cx k A I σ st s)(r:aG I cx.P σ st.length vs xs)(e:EV cx I σ st s Q (.loc st.length,st++[.list [] vs])):
  Q (.ref s.heap.objs.size) {s with heap:=s.heap.push {cls:=.type "list",data:=.seq xs.toArray}}:=
 EV.Bm e H rfl s.toks (.list (pre:=[]) 0 (by exact nz) (r.mono (D7 ..)))
end
noncomputable def VL(st:St)(v:V):aA V:=match v with
 |.tup vs=>dR (Nat.blt (len vs) 500) (.ok (.int (.ofNat (len vs))))
 |.lst vs=>.need (vs.length<500) (.ok (.num (.ofNat vs.length)))
 |.loc l=>cz (listAt st l) fun pv=>.need (pv.2.length<500) (.ok (.int (.ofNat (Nat.add pv.1.length (len pv.2)))))
 |_=>.bad
noncomputable def kdOf(st:St)(v:V):Option Nat:=match v with
 |.none=>some 0
 |.bool _=>some 1
 |.int _=>some 2
 |.str _=>some 3
 |.tup _=>some 4
 |.lst _=>some 5
 |.inst C _=>some (C+7)
 |.loc l=>match listAt st l with
  |some _=>some 5
  |none=>match fieldsOf st (.loc l)with
   |some (C,_)=>some (C+7)
   |none=>none
 |_=>none
noncomputable def TY.num:TY→Nat:=fun t=>match t with
 |.list=>0
 |.tuple=>1
 |.str=>2
 |.int=>3
 |.bool=>4
 |.range=>5
noncomputable def O3(v:V):Option Nat:=match v with
 |.ty t=>some t.num
 |.top a=>some (a+6)
 |_=>none
noncomputable def Ed(a b:Nat):List (Nat×Nat×Bool)→Option Bool
 |[]=>none
 |p::l=>match Nat.beq a p.1 with
  |true=>match Nat.beq b p.2.1 with
   |true=>some p.2.2
   |false=>Ed a b l
  |false=>Ed a b l
noncomputable def nH(a:Nat):List Nat→Bool
 |[]=>false
 |b::l=>match Nat.beq a b with
  |true=>true
  |false=>nH a l
noncomputable def IK(cx:Cx)(st:St)(v c:V):Option Bool:=match kdOf st v with
 |some a=>match O3 c with
  |some b=>match Nat.blt a 7 with
   |true=>Ed a b cx.tab.T.isin
   |false=>match nH (a-7) cx.tab.T.tH with
    |true=>Ed a b cx.tab.T.isin
    |false=>none
  |none=>none
 |none=>none
theorem Bw:∀{l:List (Nat×Nat×Bool)},Ed a b l=some r→(a,b,r)∈l
 |p::l,e=>by
  unfold Ed at e
  split at e
  ·rename_i q
   split at e
   ·rename_i q2
    obtain rfl:=qc e;obtain rfl:=qt q;obtain rfl:=qt q2;exact .head _
   ·exact .tail _ (Bw e)
  ·exact .tail _ (Bw e)
theorem uQ:∀{l:List Nat},nH a l=true→a∈l
 |b::l,e=>by
  unfold nH at e
  split at e
  ·rename_i q;rw[qt q];exact .head _
  ·exact .tail _ (uQ e)
noncomputable def Ef:Int→Int:=fun a=>match a with
 |.ofNat n=>.ofNat n
 |.negSucc n=>.ofNat (n+1)
theorem Ti(a:Int):(if a<0 then-a else a)=Ef a:=by
 induction a using qJ with
 |ofNat n=>rw[if_neg (by show¬(n:Int)<0;simp)];rfl
 |negSucc n=>rw[if_pos (by simp)];rfl
noncomputable def IL(st:St)(d x dflt:V):Option V:=cD (strOf x) fun x=>cD (oB st d) fun fs=>some (orElse (lk x fs) dflt)
noncomputable def a1{α:Type}:List α→Option α:=fun l=>match l with
 |[a]=>some a
 |_=>none
noncomputable def a2{α:Type}:List α→Option (α×α):=fun l=>match l with
 |[a,b]=>some (a,b)
 |_=>none
noncomputable def a3{α:Type}:List α→Option (α×α×α):=fun l=>match l with
 |[a,b,c]=>some (a,b,c)
 |_=>none
theorem z6{α:Type}{l:List α}{p:α}(e:a1 l=some p):l=[p]:=by
 rcases l with _|⟨a,_|⟨b,l⟩⟩
 ·exact nn e
 ·exact qc e▸rfl
 ·exact nn e
theorem z7{α:Type}{l:List α}{p:α×α}(e:a2 l=some p):l=[p.1,p.2]:=by
 rcases l with _|⟨a,_|⟨b,_|⟨c,l⟩⟩⟩
 ·exact nn e
 ·exact nn e
 ·exact qc e▸rfl
 ·exact nn e
theorem Y4{α:Type}{l:List α}{p:α×α×α}(e:a3 l=some p):l=[p.1,p.2.1,p.2.2]:=by
 rcases l with _|⟨a,_|⟨b,_|⟨c,_|⟨d,l⟩⟩⟩⟩
 ·exact nn e
 ·exact nn e
 ·exact nn e
 ·exact qc e▸rfl
 ·exact nn e
noncomputable def kW{α:Type}(st:St)(o:Option α):aA (α×St):=match o with
 |some a=>.ok (a,st)
 |none=>.bad
noncomputable def z8(cx:Cx)(b:BI)(args:List V)(st:St):aA (V×St):=match b with
 |.append=>cz (a2 args) fun p=>cz (uO p.1) fun l=>(xE st l p.2).bind fun st'=>.ok (.none,st')
 |.extend=>cz (a2 args) fun p=>cz (uO p.1) fun l=>(GZ st l p.2).bind fun st'=>.ok (.none,st')
 |.pop=>match a1 args with
  |some o=>cz (uO o) fun l=>Rb (Vz st l)
  |none=>cz (a2 args) fun p=>cz (uO p.1) fun l=>cz (Ea p.2) fun n=>dR (rK n 0) (Ri st l)
 |.Iv=>match a2 args with
  |some p=>kW st (IL st p.1 p.2 .none)
  |none=>cz (a3 args) fun p=>kW st (IL st p.1 p.2.1 p.2.2)
 |.len=>cz (a1 args) fun v=>(VL st v).bind fun n=>.ok (n,st)
 |.zM=>cz (a2 args) fun p=>cz (IK cx st p.1 p.2) fun r=>.ok (.bool r,st)
 |.abs=>cz (a1 args) fun v=>cz (Cr v) fun p=>.ok (zY p.1 (Ef p.2),st)
 |.repr=>.bad
 |.Bk=>.bad
section
variable{cx:Cx}{st:St}
theorem _root_.Mine.Internal.aG.inv1(r:aG I P σ n [a] ys):∃y,ys=[y]∧aq I P σ n a y:=by
 replace r:=r.inv;induction r using dP.casesOn with
 |mk h r=>replace r:=r.inv;subst r;exact⟨_,rfl,h⟩
theorem _root_.Mine.Internal.aG.inv2(r:aG I P σ n [a,b] ys):∃y z,ys=[y,z]∧aq I P σ n a y∧aq I P σ n b z:=by
 replace r:=r.inv;induction r using dP.casesOn with
 |mk h r=>obtain⟨z,rfl,hz⟩:=aG.inv1 r;exact⟨_,_,rfl,h,hz⟩
theorem _root_.Mine.Internal.aG.VM(r:aG I P σ n [a,b,c] ys):∃y z u,ys=[y,z,u]∧aq I P σ n a y∧aq I P σ n b z∧aq I P σ n c u:=by
 replace r:=r.inv;induction r using dP.casesOn with
 |mk h r=>obtain⟨z,u,rfl,hz,hu⟩:=aG.inv2 r;exact⟨_,_,_,rfl,h,hz,hu⟩
theorem VN(H:au cx k A I σ st s)(hv:aq I cx.P σ st.length v y)(e:Good cx.S cx.pre (VL st v) fun n=>EV cx I σ st s Q (n,st)):
  wpAny cx.M A (call (.builtin "len") [y]) Q E s:=by
 have hi:=hv.inv;induction v using V.casesOn with
 |tup vs=>
  obtain⟨hl,e⟩:=bA e;induction hi using iV.casesOn with
  | @mk a n xs g r=>
   have l1:=lJ hl;have e1:=r.length;refine PyProof.Rows.len_tuple (items:=xs.toArray) ⟨_,H.rel.sub _ _ g,rfl,n,rfl⟩ (by rw[List.size_toArray,e1];lia) ?_;rw[List.size_toArray,e1,←i6];exact EV.tok e H (.int _ (s.toks+1)) (s.toks+1+1)
 |lst vs=>
  obtain⟨hl,e⟩:=e;induction hi using mU.casesOn with
  | @mk a n xs g r=>
   have e1:=r.length;refine call_len_list (items:=xs.toArray) ⟨_,H.rel.sub _ _ g,rfl,n,rfl⟩ (by rw[List.size_toArray,e1];lia) ?_;rw[List.size_toArray,e1];exact EV.tok e H (.num _ (s.toks+1)) (s.toks+1+1)
 |loc l=>
  refine aN e fun pv q e=> ?_;obtain⟨hl,e⟩:=e;induction hi using iG.casesOn with
  |mk hk=>
   obtain⟨xs,ep,g,r,hp⟩:=H.rel.listAt q;have e1:=r.length;have hn:Nat.add pv.1.length (len pv.2)=(pv.1++xs).toArray.size:=by rw[List.size_toArray,List.length_append,e1,i6];rfl
   refine call_len_list (items:=(pv.1++xs).toArray) ⟨_,g,rfl,ep,rfl⟩ (by rw[List.size_toArray,List.length_append];lia) ?_;rw[←hn];exact EV.tok e H (.int _ (s.toks+1)) (s.toks+1+1)
 |_=>exact e.elim
inductive Z3 (K:Frag) (h:Heap) (y t:Value):Prop
 |mk {H:Heap→Prop} (Z:KitX K y t H) (p:H h) (hx:y≠.builtin "__main__.__loader__#opaque")
theorem G3(H:au cx k A I σ st s)(hv:aq I cx.P σ st.length v y)(hf:fieldsOf st v=some (C,fs))(ho:Nat.blt (C+7) 7=true∨nH (C+7-7) cx.tab.T.tH=true):Z3 cx.tab.K s.heap y (Iw (C+7)):=by
 have hm:nH C cx.tab.T.tH=true:=ho.resolve_left fun q=>absurd (qo q) (Nat.not_le_of_lt (Nat.lt_succ_of_le (qg 7 C)));have ok:=List.all_eq_true.mp H.base.tabs.tH _ (uQ hm);simp only[Rc,Bool.and_eq_true,beq_iff_eq]at ok;obtain⟨x,es,ep,d,rfl,ia,rf⟩:=Bp H.rel hv hf;exact⟨kitx_own ok.1.1.1.1.1 ok.1.1.1.1.2 ok.1.1.1.2 ok.1.1.2 ok.1.2 ok.2,ia,nofun⟩
theorem VO(H:au cx k A I σ st s)(hv:aq I cx.P σ st.length v y)(hk:kdOf st v=some a)(ho:Nat.blt a 7=true∨nH (a-7) cx.tab.T.tH=true):Z3 cx.tab.K s.heap y (Iw a):=by
 have h:=hv.inv;induction v using V.casesOn with
 |none=>subst(h:y=_);obtain rfl:=qc hk;exact⟨kitx_none,trivial,nofun⟩
 |bool b=>subst(h:y=_);obtain rfl:=qc hk;exact⟨kitx_bool,trivial,nofun⟩
 |int i=>obtain rfl:=qc hk;induction h using fY.casesOn;exact⟨kitx_int,trivial,nofun⟩
 |str x=>obtain rfl:=qc hk;induction h using ou.casesOn;exact⟨kitx_str,trivial,nofun⟩
 |tup vs=>obtain rfl:=qc hk;induction h using iV.casesOn with|mk g r=>exact⟨kitx_tuple,⟨_,H.rel.sub _ _ g,rfl⟩,nofun⟩
 |lst vs=>obtain rfl:=qc hk;induction h using mU.casesOn with|mk g r=>exact⟨kitx_list,⟨_,H.rel.sub _ _ g,rfl⟩,nofun⟩
 |inst C fs=>obtain rfl:=qc hk;exact G3 H hv rfl ho
 |loc l=>
  unfold kdOf at hk;dsimp only at hk;induction q:listAt st l using qe with
  |some pv=>
   rw[q]at hk;obtain rfl:=qc hk;induction h using iG.casesOn
   obtain⟨xs,ep,g,_⟩:=H.rel.listAt q;exact⟨kitx_list,⟨_,g,rfl⟩,nofun⟩
  |none=>
   rw[q]at hk;dsimp only at hk;induction q2:fieldsOf st (.loc l)using qe with
   |none=>rw[q2]at hk;exact nn hk
   |some p=>rw[q2]at hk;obtain rfl:=qc hk;exact G3 H hv q2 ho
 |_=>exact nn hk
theorem Y5(hc:aq I cx.P σ n c z)(e:O3 c=some b):z=Iz b:=by
 have h:=hc.inv;clear hc;induction c using V.casesOn with
 |ty t=>obtain rfl:=qc e;subst(h:z=_);induction t using TY.casesOn<;>rfl
 |top a=>obtain rfl:=qc e;exact h
 |_=>exact nn e
theorem Tj(H:au cx k A I σ st s)(hv:aq I cx.P σ st.length v y)(hc:aq I cx.P σ st.length c z)(e:IK cx st v c=some r)(h:EV cx I σ st s Q (.bool r,st)):
  wpAny cx.M A (call (.builtin "isinstance") [y,z]) Q E s:=by
 unfold IK at e;induction hk:kdOf st v using qe with
 |none=>rw[hk]at e;exact nn e
 |some a=>induction hb:O3 c using qe with
  |none=>rw[hk,hb]at e;exact nn e
  |some b=>
   rw[hk,hb]at e;dsimp only at e;rw[Y5 hc hb];have fin:Ed a b cx.tab.T.isin=some r→(Nat.blt a 7=true∨nH (a-7) cx.tab.T.tH=true)→wpAny cx.M A (call (.builtin "isinstance") [y,Iz b]) Q E s:=fun hl ho=>
    match VO H hv hk ho with
    |.mk Z p hx=>kia_one Z (H.base.zO H.rel.sub) p (beq_iff_eq.mp (List.all_eq_true.mp H.base.tabs.isin _ (Bw hl))) hx fun tk=>EV.tok h H (.bool r) tk
   induction q:Nat.blt a 7 using qd with
   |true=>rw[q]at e;exact fin e (.inl q)
   |false=>
    rw[q]at e;dsimp only at e;induction q2:nH (a-7) cx.tab.T.tH using qd with
    |true=>rw[q2]at e;exact fin e (.inr q2)
    |false=>rw[q2]at e;exact nn e
theorem G4(H:au cx k A I σ st s)(hd:aq I cx.P σ st.length d yd)(hx:aq I cx.P σ st.length x yx)(hw:aq I cx.P σ st.length w yw)
  (e:IL st d x w=some v)(h:EV cx I σ st s Q (v,st)):
  wpAny cx.M A (call (.builtin "dict.get") [yd,yx,yw]) Q E s∧(yw=.none→wpAny cx.M A (call (.builtin "dict.get") [yd,yx]) Q E s):=by
 refine aK e fun x' hx' e=>aK e fun fs q e=> ?_;induction Eb hx hx' using ou.casesOn with
 |mk t=>
  obtain⟨a,es,ep,rfl,g,rr,rL⟩:=xG H.rel hd q;have hm:=wg (cx:=cx) g rr;have fu:=tL es x' rr.noRef;have hs:=rL H.base;have key:aq I cx.P σ st.length v ((findBy Value.isStrOf es.toArray x').getD yw):=by
   rw[←qc e];induction q2:lk x' fs using qe with
   |some u=>
    obtain⟨z,hz,rz⟩:=(rr.find x').1 _ q2;rw[hz]at fu;rw[←qc fu];exact rz
   |none=>
    rw[(rr.find x').2 q2]at fu;rw[←qc fu];exact hw
  refine⟨?_,fun hn=> ?_⟩
  ·exact call_meetsIn PySem.F.slot_dict_get ⟨_,g,rfl⟩ PySem.F.entry_dict_get (PySem.F.args_dict_get_3 _ _ _) (meets_dict_get_default (strKind cx.prog cx.w) a (strKind_is cx.prog cx.w x' t) hs yw) ⟨_,hm,EV.tok h H key _⟩
  ·subst hn;exact call_meetsIn PySem.F.slot_dict_get ⟨_,g,rfl⟩ PySem.F.entry_dict_get (PySem.F.args_dict_get_2 _ _) (meets_dict_get (strKind cx.prog cx.w) a (strKind_is cx.prog cx.w x' t) hs) ⟨_,hm,EV.tok h H key _⟩
theorem z9{α:Type}{S:Spec}{pre:Nat→Addr→List V→St→Prop}{st:St}{o:Option α}{R:α×St→Prop}{G:Prop}(g:Good S pre (kW st o) R)(h:∀x,o=some x→R (x,st)→G):G:=by
 induction o using qe with
 |none=>exact g.elim
 |some x=>exact h x rfl g
theorem Tn{args:List V}{ys:LV}(H:au cx k A I σ st s)(r:aG I cx.P σ st.length args ys)(g:Good cx.S cx.pre (z8 cx b args st) (EV cx I σ st s Q)):
  wpAny cx.M A (call (.builtin b.id) ys) Q E s:=by
 induction b using BI.casesOn with
 |append=>
  refine aN g fun p hp g=>aN g fun l hl g=> ?_;rw[z7 hp]at r;obtain⟨y1,y2,rfl,h1,h2⟩:=r.inv2;exact(by obtain⟨_⟩:=uc h1 hl;exact yy H h2 (Good.bind g) fun st' s' e x sm=>EV.ext e x sm .none)
 |extend=>
  refine aN g fun p hp g=>aN g fun l hl g=> ?_;rw[z7 hp]at r;obtain⟨y1,y2,rfl,h1,h2⟩:=r.inv2;exact(by obtain⟨_⟩:=uc h1 hl;exact Gv H h2 (Good.bind g) fun st' s' e x sm=>EV.ext e x sm .none)
 |pop=>
  unfold z8 at g;dsimp only at g;induction q:a1 args using qe with
  |some o=>
   rw[q]at g;refine aN g fun l hl g=> ?_;rw[z6 q]at r;obtain⟨⟨v,st'⟩,q,g⟩:=DQ g;obtain⟨y1,rfl,h1⟩:=r.inv1;exact(by obtain⟨_⟩:=uc h1 hl;exact OP H q fun y s' x sm ry=>EV.ext g x sm (ry.mono ⟨fun _ _ e=>e,fun _ _=>rfl,x.le.n⟩))
  |none=>
   rw[q]at g;refine aN g fun p hp g=>aN g fun l hl g=>aN g fun i hi g=> ?_;obtain⟨hn,g⟩:=bA g;rw[z7 hp]at r;obtain⟨y1,y2,rfl,h1,h2⟩:=r.inv2;have h2:=zZ h2 hi;rw[beq_iff_eq.mp ((pe _ 0).trans hn)]at h2;exact(by obtain⟨_⟩:=uc h1 hl;obtain⟨_⟩:=h2;exact Lz H g fun v st' y s' e x sm ry=>EV.ext e x sm (ry.mono ⟨fun _ _ e=>e,fun _ _=>rfl,x.le.n⟩))
 |Iv=>
  unfold z8 at g;dsimp only at g;induction q:a2 args using qe with
  |some p=>
   rw[q]at g;refine z9 g fun v q2 g=> ?_;rw[z7 q]at r;obtain⟨y1,y2,rfl,h1,h2⟩:=r.inv2;exact(G4 H h1 h2 .none q2 g).2 rfl
  |none=>
   rw[q]at g;refine aN g fun p hp g=>z9 g fun v q2 g=> ?_;rw[Y4 hp]at r;obtain⟨y1,y2,y3,rfl,h1,h2,h3⟩:=r.VM;exact(G4 H h1 h2 h3 q2 g).1
 |len=>
  refine aN g fun v hp g=> ?_;rw[z6 hp]at r;obtain⟨y1,rfl,h1⟩:=r.inv1;exact VN H h1 (Good.bind g)
 |zM=>
  refine aN g fun p hp g=>aN g fun b q g=> ?_;rw[z7 hp]at r;obtain⟨y1,y2,rfl,h1,h2⟩:=r.inv2;exact Tj H h1 h2 q g
 |abs=>
  refine aN g fun v hp g=>aN g fun p q g=> ?_;rw[z6 hp]at r;obtain⟨y1,rfl,h1⟩:=r.inv1;obtain⟨t,rfl⟩:=t9 h1 q;exact call_abs_int fun u tk=>by rw[Ti];exact EV.tok g H (m8 _ _ u) tk
 |_=>exact g.elim
noncomputable def aaM(st:St)(v:V):aA (V×St):=match v with
 |.bool b=>.ok (.int (p5 b),st)
 |.nC b=>.fork b fun c=>.ok (.int (p5 c),st)
 |.int n=>.ok (.int n,st)
 |_=>.bad
noncomputable def Rv:Int→Option Nat:=fun i=>match i with
 |.ofNat n=>some n
 |.negSucc _=>none
theorem O4(e:Rv i=some n):i=.ofNat n:=by
 induction i using qJ with
 |ofNat=>exact congrArg Int.ofNat (qc e)
 |negSucc=>exact nn e
noncomputable def Eg(t:TY)(args:List V)(st:St):aA (V×St):=cz (a1 args) fun v=>match t with
 |.list=>cz (xF st v) fun vs=>.need (vs.length<500) (.ok (.loc st.length,st++[.list [] vs]))
 |.tuple=>cz (Dq v) fun vs=>.ok (.tup vs,st)
 |.str=>cz (Cr v) fun p=>.need (p.2.natAbs.log2<1920) (.ok (.str (Str.ofString (toString p.2)),st))
 |.int=>aaM st v
 |.bool=>.bad
 |.range=>cz (cD (Ea v) Rv) fun m=>.ok (.vI m,st)
theorem G5(H:au cx k A I σ st s)(r:aG I cx.P σ st.length args ys)(g:Good cx.S cx.pre (Eg t args st) (EV cx I σ st s Q)):
  wpAny cx.M A (call (.type t.id) ys) Q E s:=by
 refine aN g fun v hp g=> ?_;rw[z6 hp]at r;obtain⟨y1,rfl,h1⟩:=r.inv1;clear r;induction t using TY.casesOn with
 |list=>
  refine aN g fun vs q g=> ?_;obtain⟨a,xs,ep,T,rfl,hT,ga,rr⟩:=zg H.rel h1 q;have e1:=rr.length;have l1:vs.length<500:=g.1;refine call_list_seq a hT ga rfl rfl (fun h' c' kp gn=> ?_) (by rw[List.size_toArray,sizeLine_eq];lia);have ex:=aM.Bm (ao:=.list [] vs) H.rel kp (dD _) gn (.list (pre:=[]) c' (by exact nz) (rr.mono (D7 ..)));refine g.2 I _ _ {s with heap:=h'} ex ⟨rfl,rfl,rfl⟩ ?_;have:=aq.loc (I:=I) (P:=cx.P) (σ:=gj σ st.length s.heap.objs.size) (n₀:=(st++[AO.list [] vs]).length) st.length (by simp);rw[eG]at this;exact this
 |tuple=>
  refine aN g fun vs q g=> ?_;induction Ec h1 q using iV.casesOn with
  |mk gg rr=>exact call_tuple_same (items:=_) ⟨_,H.rel.sub _ _ gg,rfl,_,rfl⟩ (EV.tok g H (.tup gg rr) s.toks)
 |str=>
  refine aN g fun p q g=> ?_;obtain⟨t,rfl⟩:=t9 h1 q;exact P.str_of_int g.1 (EV.tok g.2 H (.str _ _) _)
 |int=>
  have h:=h1.inv;clear h1 hp;induction v using V.casesOn with
  |bool b=>subst(h:y1=_);exact call_int_bool (by rw[kT];exact EV.tok g H (.int _ _) _)
  |nC b=>subst(h:y1=_);exact call_int_bool (by rw[kT];exact EV.tok g H (.int _ _) _)
  |int i=>induction h using fY.casesOn;exact call_int_int (EV.tok g H (.int _ _) s.toks)
  |_=>exact g.elim
 |range=>
  refine aN g fun m hm g=>aK hm fun i hi hm=> ?_;have h2:=zZ h1 hi;rw[O4 hm]at h2;exact(by obtain⟨_⟩:=h2;exact call_range_1 (EV.DS g H rfl _ (.vI _ (kQ ..))))
 |_=>exact g.elim
end
set_option genInjectivity false in
structure Ev where
 e:Nat→FE→ai→St→Expr→aA (V×St)
 t:Nat→FE→ai→St→Expr→aA (Bool×St)
 b:Nat→FE→ai→St→List Stmt→aA ((Out×ai)×St)
 c:Nat→V→List V→St→aA (V×St)
def rM(I:IM)(P:Params)(σ:Nat→Addr)(n:Nat)(o:Out)(f:Flow):Prop:=match o with
 |.next=>f=.next
 |.brk=>f=.brk
 |.cont=>f=.cont
 |.ret v=>∃y,f=.ret y∧aq I P σ n v y
section
variable{P:Params}
theorem rM.next:rM I P σ n .next .next:=rfl
theorem rM.brk:rM I P σ n .brk .brk:=rfl
theorem rM.cont:rM I P σ n .cont .cont:=rfl
theorem rM.ret(h:aq I P σ n v y):rM I P σ n (.ret v) (.ret y):=⟨y,rfl,h⟩
end
abbrev EB(cx:Cx)(I:IM)(σ:Nat→Addr)(st:St)(s:Shared)(Q:Bool→SP):Bool×St→Prop:=Ends cx (fun _=>False) I σ st.length s (fun _ _ _ b c _=>b=c) Q
abbrev EO(cx:Cx)(fe:FE)(env:Env)(I:IM)(σ:Nat→Addr)(st:St)(s:Shared)(Q:Flow→SP):(Out×ai)×St→Prop:=
 Ends cx (aF env) I σ st.length s (fun I σ st o f s=>rM I cx.P σ st.length o.1 f∧av cx.P fe o.2 env I σ st.length s.heap) Q
structure aU (cx:Cx) (ev:Ev):Prop where
 e:∀{k A I σ st s E fe m env x} {Q:dU},au cx k A I σ st s→av cx.P fe m env I σ st.length s.heap→
  Good cx.S cx.pre (ev.e k fe m st x) (EV cx I σ st s Q)→wpAny cx.M A (eval x env) Q E s
 t:∀{k A I σ st s E fe m env x} {Q:Bool→SP},au cx k A I σ st s→av cx.P fe m env I σ st.length s.heap→
  Good cx.S cx.pre (ev.t k fe m st x) (EB cx I σ st s Q)→wpAny cx.M A (isTrue x env (eval x env)) Q E s
 b:∀{k A I σ st s E fe m env x} {Q:Flow→SP},au cx k A I σ st s→av cx.P fe m env I σ st.length s.heap→
  Good cx.S cx.pre (ev.b k fe m st x) (EO cx fe env I σ st s Q)→wpAny cx.M A (execs x env) Q E s
 c:∀{k A I σ st s E f args y ys} {Q:dU},au cx k A I σ st s→aq I cx.P σ st.length f y→aG I cx.P σ st.length args ys→
  Good cx.S cx.pre (ev.c k f args st) (EV cx I σ st s Q)→wpAny cx.M A (call y ys) Q E s
section
variable{st:St}
theorem aU.ee{x:Expr}{α:Type}{f:V×St→aA α}{R:α→Prop}{Q:dU}(S:aU cx ev)(H:au cx k A I σ st s)(l:av cx.P fe m env I σ st.length s.heap)
  (g:Good cx.S cx.pre ((ev.e k fe m st x).bind f) R)
  (h:∀I' af st' s' v y,aM cx.P (fun _=>False) I σ st.length s.heap I' af st' s'.heap→bw s s'→au cx k A I' af st' s'→av cx.P fe m env I' af st'.length s'.heap→aq I' cx.P af st'.length v y→
   Good cx.S cx.pre (f (v,st')) R→Q y s'):wpAny cx.M A (eval x env) Q E s:=
 S.e H l (Good.mono (fun p gp I' af y s' x sm r=>h I' af p.2 s' p.1 y x sm (H.go x) (l.ext x) r gp) (Good.bind g))
theorem aU.tt{x:Expr}{α:Type}{f:Bool×St→aA α}{R:α→Prop}{Q:Bool→SP}(S:aU cx ev)(H:au cx k A I σ st s)(l:av cx.P fe m env I σ st.length s.heap)
  (g:Good cx.S cx.pre ((ev.t k fe m st x).bind f) R)
  (h:∀I' af st' s' b,aM cx.P (fun _=>False) I σ st.length s.heap I' af st' s'.heap→bw s s'→au cx k A I' af st' s'→av cx.P fe m env I' af st'.length s'.heap→
   Good cx.S cx.pre (f (b,st')) R→Q b s'):wpAny cx.M A (isTrue x env (eval x env)) Q E s:=
 S.t H l (Good.mono (fun p gp I' af y s' x sm r=>h I' af p.2 s' y x sm (H.go x) (l.ext x) (r▸gp)) (Good.bind g))
noncomputable def ud(e:Expr):Bool:=match e with
 |.Starred _ _=>false
 |_=>true
theorem eW{e:Expr}(rest:List Expr)(env:Env)(h:ud e=true):starEach (e::rest) env=(false,eval e env)::starEach rest env:=by
 induction e using PySem.Expr.casesOn<;>first|rfl|exact ft h
noncomputable def wj(ev:Ev)(k:Nat)(fe:FE)(m:ai):List Expr→St→aA (List V×St)
 |[],st=>.ok ([],st)
 |e::r,st=>dR (ud e) ((ev.e k fe m st e).bind fun p=>(wj ev k fe m r p.2).bind fun q=>.ok (p.1::q.1,q.2))
theorem Dr{pos:Pos}(S:aU cx ev){es:List Expr}:∀{I:IM} {σ:Nat→Addr} {st:St} {s:Shared} {α:Type} {f:List V×St→aA α} {R:α→Prop} {Q:List Value→Shared→Prop},au cx k A I σ st s→av cx.P fe m env I σ st.length s.heap→
  Good cx.S cx.pre ((wj ev k fe m es st).bind f) R→
  (∀I' af st' s' vs ys,aM cx.P (fun _=>False) I σ st.length s.heap I' af st' s'.heap→bw s s'→au cx k A I' af st' s'→av cx.P fe m env I' af st'.length s'.heap→aG I' cx.P af st'.length vs ys→
   Good cx.S cx.pre (f (vs,st')) R→Q ys s')→wpAny cx.M A (spliced (backTo pos (starEach es env))) Q E s:=by
 induction es with
 |nil=>exact fun H l g h=>spliced_nil (h _ _ _ _ [] [] (aM.refl H.rel) (bw.refl _) H l .nil g)
 |cons e es ih=>
  intro I σ st s α f R Q H l g h;obtain⟨hp,g⟩:=bA (Good.bind g);exact args_cons (S.ee H l g fun bG aZ aX s₁ v y aV aO aY bD b9 aQ=>ih aY bD aQ fun dj bH bW br vs ys bQ cK cP dX jO fL=>
   h dj bH bW br (v::vs) (y::ys) (aV.trans bQ) (aO.trans cK) cP dX (.cons (b9.mono bQ.le) jO) fL) (eW es env hp)
theorem EV.into(e:EV cx I σ st s Q p)(x:aM cx.P (fun _=>False) I σ st.length s.heap I' af st' s'.heap)(sm:bw s s'):
  EV cx I' af st' s' Q p:=Ends.into e x sm
end
noncomputable def LK(c:Const):Option V:=match c with
 |.none=>some .none
 |.bool b=>some (.bool b)
 |.int i=>some (.int i)
 |.str s=>some (.str s)
 |_=>none
noncomputable def LL(cx:Cx)(fe:FE)(m:ai)(st:St)(x:Str):aA (V×St):=dR (i7 (seq x "__debug__")) (kW st (Bo cx fe m x))
noncomputable def ue(e:Expr):Bool:=match e with
 |.Call _ _ _ _=>false
 |_=>true
noncomputable def LM(cx:Cx)(ev:Ev)(k:Nat)(fe:FE)(m:ai)(st:St)(v:Expr)(a:Str):aA (V×St):=dR (ue v) ((ev.e k fe m st v).bind fun p=>kW p.2 (y9 cx p.2 p.1 a))
noncomputable def uR(ev:Ev)(k:Nat)(fe:FE)(m:ai)(st:St)(v i:Expr):aA (V×St):=
 (ev.e k fe m st v).bind fun p=>(ev.e k fe m p.2 i).bind fun q=>(DW q.2 p.1 q.1).bind fun u=>.ok (u,q.2)
noncomputable def aaN:Int→Option Nat:=fun i=>match i with
 |.ofNat n=>some n
 |.negSucc _=>none
noncomputable def aaO:Const→Option Nat:=fun c=>match c with
 |.int i=>aaN i
 |_=>none
noncomputable def aaP:Expr→Option Nat:=fun e=>match e with
 |.Constant c _ _=>aaO c
 |_=>none
noncomputable def IP(e:Option Expr):Option (Option Nat):=match e with
 |none=>some none
 |some e=>cD (aaP e) fun n=>some (some n)
noncomputable def cut(lo hi:Option Nat)(vs:List V):Option (List V):=match lo with
 |none=>cD hi fun n=>some (vs.take n)
 |some n=>match hi with
  |none=>some (vs.drop n)
  |some _=>none
noncomputable def To(e:Option Expr):Bool:=match e with
 |none=>true
 |some _=>false
noncomputable def G6(ev:Ev)(k:Nat)(fe:FE)(m:ai)(st:St)(v:Expr)(lo hi step:Option Expr):aA (V×St):=dR (To step) (cz (IP lo) fun l=>cz (IP hi) fun u=>
 (ev.e k fe m st v).bind fun p=>cz (pg p.2 p.1) fun vs=>cz (cut l u vs) fun ws=>.need (vs.length<1000) (.ok (.lst ws,p.2)))
noncomputable def zk(ev:Ev)(k:Nat)(fe:FE)(m:ai)(st:St)(v i:Expr):aA (V×St):=match i with
 |.Slice lo hi step _=>G6 ev k fe m st v lo hi step
 |.Name a b=>uR ev k fe m st v (.Name a b)
 |.Constant a b c=>uR ev k fe m st v (.Constant a b c)
 |.BinOp a b c d=>uR ev k fe m st v (.BinOp a b c d)
 |.Attribute a b c=>uR ev k fe m st v (.Attribute a b c)
 |.Subscript a b c=>uR ev k fe m st v (.Subscript a b c)
 |.UnaryOp a b c=>uR ev k fe m st v (.UnaryOp a b c)
 |_=>.bad
noncomputable def Rw(ev:Ev)(k:Nat)(fe:FE)(m:ai)(st:St)(op:Operator)(l r:Expr):aA (V×St):=
 (ev.e k fe m st l).bind fun p=>(ev.e k fe m p.2 r).bind fun q=>(OZ q.2 op p.1 q.1).bind fun v=>.ok (v,q.2)
noncomputable def Aa(ev:Ev)(k:Nat)(fe:FE)(m:ai)(st:St)(l:Expr)(op:CmpOp)(r:Expr):aA (V×St):=match behindInMarks op r with
 |true=>.bad
 |false=>(ev.e k fe m st l).bind fun p=>(ev.e k fe m p.2 r).bind fun q=>kW q.2 (OY q.2 op p.1 q.1)
noncomputable def Rx(ev:Ev)(k:Nat)(fe:FE)(m:ai)(st:St)(x:Expr):aA (V×St):=
 (ev.e k fe m st x).bind fun p=>cz (zV p.1) fun b=>.ok (.bool (i7 b),p.2)
noncomputable def VP:Int→Int:=fun i=>match i with
 |.ofNat n=>match n with
  |0=>.ofNat 0
  |n+1=>.negSucc n
 |.negSucc n=>.ofNat (n+1)
theorem Tp(i:Int): -i=VP i:=by
 induction i using qJ with
 |ofNat n=>induction n using qk<;>rfl
 |negSucc n=>rfl
noncomputable def Ry(ev:Ev)(k:Nat)(fe:FE)(m:ai)(st:St)(x:Expr):aA (V×St):=
 (ev.e k fe m st x).bind fun p=>cz (Ea p.1) fun i=>.ok (.int (VP i),p.2)
noncomputable def RA(ev:Ev)(k:Nat)(fe:FE)(m:ai)(st:St)(t a b:Expr):aA (V×St):=
 (ev.t k fe m st t).bind fun p=>match p.1 with
  |true=>ev.e k fe m p.2 a
  |false=>ev.e k fe m p.2 b
noncomputable def RB(ev:Ev)(k:Nat)(fe:FE)(m:ai)(st:St)(es:List Expr):aA (V×St):=
 (wj ev k fe m es st).bind fun p=>dR (Nat.blt (len p.1) 500) (.ok (.tup p.1,p.2))
noncomputable def LN(ev:Ev)(k:Nat)(fe:FE)(m:ai)(st:St)(es:List Expr):aA (V×St):=
 (wj ev k fe m es st).bind fun p=>dR (Nat.blt (len p.1) 500) (.ok (.loc p.2.length,p.2++[.list [] p.1]))
noncomputable def RC(ev:Ev)(k:Nat)(fe:FE)(m:ai)(st:St)(x y:Expr):aA (V×St):=
 (ev.e k fe m st x).bind fun p=>cz (zV p.1) fun b=>match b with
  |true=>ev.e k fe m p.2 y
  |false=>.ok p
noncomputable def VQ(ev:Ev)(k:Nat)(fe:FE)(m:ai)(st:St)(x y:Expr):aA (V×St):=
 (ev.e k fe m st x).bind fun p=>cz (zV p.1) fun b=>match b with
  |true=>.ok p
  |false=>ev.e k fe m p.2 y
noncomputable def G7(st:St):aA (V×St):=.ok (.loc st.length,st++[.dict []])
section
variable{cx:Cx}{st:St}
theorem kh{α β:Type}{o:Option α}{S:Spec}{pre:Nat→Addr→List V→St→Prop}{R:α×St→Prop}(g:Good S pre (kW st o) R):∃a,o=some a∧R (a,st):=by
 induction o using qe with
 |none=>exact g.elim
 |some a=>exact⟨a,rfl,g⟩
theorem O5{c:Const}{kk:Nat}{pos:Pos}(H:au cx k A I σ st s)(g:Good cx.S cx.pre (kW st (LK c)) (EV cx I σ st s Q)):wpAny cx.M A (eval (.Constant c kk pos) env) Q E s:=by
 obtain⟨v,e,g⟩:=kh (β:=V) g;induction c using PySem.Const.casesOn with
 |none=>cases qc e;exact wpAny_Constant_none (EV.tok g H .none s.toks)
 |bool=>cases qc e;exact wpAny_Constant_bool (EV.tok g H (.bool _) s.toks)
 |int=>cases qc e;exact wpAny_Constant_int (EV.tok g H (.int _ _) _)
 |str=>cases qc e;exact PySem.wpAny_Constant_str (EV.tok g H (.str _ _) _)
 |_=>exact nn e
theorem Tq{x:Str}{pos:Pos}(H:au cx k A I σ st s)(l:av cx.P fe m env I σ st.length s.heap)(g:Good cx.S cx.pre (LL cx fe m st x) (EV cx I σ st s Q)):wpAny cx.M A (eval (.Name x pos) env) Q E s:=by
 obtain⟨hx,g⟩:=bA g;obtain⟨v,e,g⟩:=kh (β:=V) g;refine wpAny_Name (Lf H l e fun y r=>EV.tok g H r s.toks) (beq_eq_false_iff_ne.mpr (iD.mp ?_));induction q:seq x "__debug__"using qd with
 |false=>rfl
 |true=>rw[q]at hx;exact ft hx
theorem p6{v:Expr}{a:Str}{w:Sem Value}(h:ue v=true):attributeBase v a env w=w:=by
 induction v using PySem.Expr.casesOn with
 |Call=>exact ft h
 |_=>rfl
theorem Tu{v:Expr}{a:Str}{pos:Pos}(S:aU cx ev)(H:au cx k A I σ st s)(l:av cx.P fe m env I σ st.length s.heap)(g:Good cx.S cx.pre (LM cx ev k fe m st v a) (EV cx I σ st s Q)):
  wpAny cx.M A (eval (.Attribute v a pos) env) Q E s:=by
 obtain⟨hv,g⟩:=bA g;rw[arm_eval_Attribute,p6 hv];refine wpAny_bind (S.ee H l g fun I' af st' s' v y x sm H' l' r g'=>wpAny_bind (wpAny_standAt ?_));obtain⟨u,e,g'⟩:=kh (β:=V) g';refine wpAny_bind (wpAny_holding (DU H' r e fun z rz=> ?_));exact wpAny_bind (wpAny_letTemporaryGo (wpAny_pure (EV.tok (EV.into g' x sm) H' rz _)))
theorem uf(S:aU cx ev)(H:au cx k A I σ st s)(l:av cx.P fe m env I σ st.length s.heap)(g:Good cx.S cx.pre (uR ev k fe m st v i) (EV cx I σ st s Q)):
  wpAny cx.M A (eval (.Subscript v i pos) env) Q E s:=by
 refine Subscript_ (S.ee H l g fun bG aZ aX s₁ ji iX aV aO aY bD b9 aQ=>S.ee aY bD aQ fun dj bH bW br Eh Ei bQ cK cP dX jO fL=> ?_);exact OT cP (b9.mono bQ.le) jO (Good.bind fL) fun u z t g' rz=>EV.tok (EV.into g' (aV.trans bQ) (aO.trans cK)) cP rz t
theorem G8{o:Option Nat}{I:IM}{σ:Nat→Addr}{st:St}{s:Shared}{Q:dU}(h:IP e=some o)
  (hQ:∀y t,IsPart y (o.map Int.ofNat)→Q y {s with toks:=t}):wpAny cx.M A (evalPart e env) Q E s:=by
 induction e using qe with
 |none=>cases qc h;exact wpAny_pure (hQ _ s.toks .none)
 |some e=>
  refine aK h fun n q h=> ?_;cases qc h
  induction e using PySem.Expr.casesOn with
  |Constant c=>induction c using PySem.Const.casesOn with
   |int i=>induction i using qJ with
    |ofNat j=>cases qc q;rw[evalPart_some];exact wpAny_Constant_int (hQ _ _ (.int _ _))
    |negSucc=>exact nn q
   |_=>exact nn q
  |_=>exact nn q
theorem aG.take{P:Params}{n:Nat}{vs:List V}:∀(j:Nat) {xs:LV},aG I P σ n vs xs→aG I P σ n (vs.take j) (xs.take j):=by
 induction vs with
 |nil=>intro j xs h;replace h:=h.inv;subst h;rw[List.take_nil,List.take_nil];exact .nil
 |cons a vs ih=>
  intro j xs h;replace h:=h.inv;induction h using dP.casesOn with
  |mk h r=>induction j using qk with
   |zero=>exact .nil
   |succ j=>exact .cons h (ih j r)
theorem aG.Y6{P:Params}{n:Nat}{vs:List V}:∀(j:Nat) {xs:LV},aG I P σ n vs xs→aG I P σ n (vs.drop j) (xs.drop j):=by
 induction vs with
 |nil=>intro j xs h;replace h:=h.inv;subst h;rw[List.drop_nil,List.drop_nil];exact .nil
 |cons a vs ih=>
  intro j xs h;replace h:=h.inv;induction h using dP.casesOn with
  |mk h r=>induction j using qk with
   |zero=>exact .cons h r
   |succ j=>exact ih j r
theorem VR{P:Params}{lo hi:Option Nat}{vs ws:List V}{xs:LV}(e:cut lo hi vs=some ws)(ra:aG I P (fun _=>0) 0 vs xs):∃zs,slicePick xs.toArray (lo.map Int.ofNat) (hi.map Int.ofNat) none=zs.toArray∧aG I P (fun _=>0) 0 ws zs:=by
 induction lo using qe with
 |none=>exact aK e fun n q e=>⟨_,q▸slicePick_upto' _ _,qc e▸ra.take _⟩
 |some n=>induction hi using qe with
  |none=>exact⟨_,slicePick_from' _ _,qc e▸ra.Y6 _⟩
  |some=>exact nn e
theorem O6{v:Expr}{lo hi step:Option Expr}{VS pos:Pos}(S:aU cx ev)(H:au cx k A I σ st s)(l:av cx.P fe m env I σ st.length s.heap)(g:Good cx.S cx.pre (G6 ev k fe m st v lo hi step) (EV cx I σ st s Q)):
  wpAny cx.M A (eval (.Subscript v (.Slice lo hi step VS) pos) env) Q E s:=by
 obtain⟨yz,g⟩:=bA g;induction step using qe with
 |some=>exact ft yz
 |none=>
 refine aN g fun lo' Z4 g=>aN g fun hi' hhi g=> ?_;refine Subscript_ (S.ee H l g fun bG aZ aX s₁ ji iX aV aO aY bD b9 aQ=>wpAny_Slice (G8 (I:=bG) (σ:=aZ) (st:=aX) Z4 fun yl tl pl=>G8 (I:=bG) (σ:=aZ) (st:=aX) hhi fun yu tu pu=> ?_));rw[evalPart_none];refine wpAny_pure (aN aQ fun vs LO aQ=>aN aQ fun ws hws aQ=> ?_);have hl:vs.length<1000:=aQ.1;obtain⟨a,xs,n,rfl,ga,ra⟩:=z4 aY.rel b9 LO;have e1:=ra.length;have il:s₁.heap.IsList a xs.toArray:=⟨_,ga,rfl,n,rfl⟩;have bQ:=aM.Rf aY.rel {cls:=.type "slice",data:=.fields #[yl,yu,.none]};have cP:au cx k A bG aZ aX {s₁ with heap:=s₁.heap.push {cls:=.type "slice",data:=.fields #[yl,yu,.none]},toks:=tu}:=⟨aY.fit,aY.base,bQ.rel⟩;obtain⟨nG,pN⟩:=g7 (.Slice lo hi none VS) (.ref a) (.ref s₁.heap.objs.size);obtain⟨zs,hzs,rz⟩:=VR hws ra;refine tail_any (Heap.IsList.typeIs (s:={s₁ with heap:=s₁.heap.push {cls:=.type "slice",data:=.fields #[yl,yu,.none]}}) (il.push _)) list_getitem_lookup
  (wpAny_getItem_list_slice (il.push _) (Heap.IsSliceOf.new ..) pl pu .none (by trivial) ?_ (by rw[List.size_toArray,sizeLine_eq];lia)) pN
 rw[hzs];exact uP cP rz (EV.into (s':={s₁ with heap:=s₁.heap.push {cls:=.type "slice",data:=.fields #[yl,yu,.none]},toks:=tu}) aQ.2 (aV.trans bQ) ⟨aO.1,aO.2.1,aO.2.2⟩)
theorem Ct{v i:Expr}(S:aU cx ev)(H:au cx k A I σ st s)(l:av cx.P fe m env I σ st.length s.heap)(g:Good cx.S cx.pre (zk ev k fe m st v i) (EV cx I σ st s Q)):
  wpAny cx.M A (eval (.Subscript v i pos) env) Q E s:=by
 induction i using PySem.Expr.casesOn with
 |Slice=>exact O6 S H l g
 |Name=>exact uf S H l g
 |Constant=>exact uf S H l g
 |BinOp=>exact uf S H l g
 |Attribute=>exact uf S H l g
 |Subscript=>exact uf S H l g
 |UnaryOp=>exact uf S H l g
 |_=>exact g.elim
theorem O7{op:Operator}{a b:Expr}{pos:Pos}(S:aU cx ev)(H:au cx k A I σ st s)(l:av cx.P fe m env I σ st.length s.heap)(g:Good cx.S cx.pre (Rw ev k fe m st op a b) (EV cx I σ st s Q)):
  wpAny cx.M A (eval (.BinOp a op b pos) env) Q E s:=by
 refine wpAny_BinOp (S.ee H l g fun bG aZ aX s₁ ji iX aV aO aY bD b9 aQ=>S.ee aY bD aQ fun dj bH bW br Eh Ei bQ cK cP dX jO fL=> ?_);exact VK cP (b9.mono bQ.le) jO (Good.mono (fun v gv=>EV.into gv (aV.trans bQ) (aO.trans cK)) (Good.bind fL))
theorem Tv{op:CmpOp}{a b:Expr}{pos:Pos}(S:aU cx ev)(H:au cx k A I σ st s)(l:av cx.P fe m env I σ st.length s.heap)(g:Good cx.S cx.pre (Aa ev k fe m st a op b) (EV cx I σ st s Q)):
  wpAny cx.M A (eval (.Compare a [op] [b] pos) env) Q E s:=by
 unfold Aa at g
 split at g
 ·exact g.elim
 ·rename_i hm
  refine wpAny_Compare1 (S.ee H l g fun bG aZ aX s₁ ji iX aV aO aY bD b9 aQ=>S.ee aY bD aQ fun dj bH bW br Eh Ei bQ cK cP dX jO fL=> ?_) hm;obtain⟨u,e,g'⟩:=kh (β:=V) fL;exact D6 cP (b9.mono bQ.le) jO e fun z t rz=>EV.tok (EV.into g' (aV.trans bQ) (aO.trans cK)) cP rz t
noncomputable def Ej(ev:Ev)(k:Nat)(fe:FE)(m:ai)(st:St)(l:Expr)(op:CmpOp)(r:Expr):aA (Bool×St):=
 (Aa ev k fe m st l op r).bind fun p=>II p.2 p.1
theorem Tw{op:CmpOp}{a b:Expr}{pos:Pos}{w:Sem Value}{Q:Bool→SP}(S:aU cx ev)(H:au cx k A I σ st s)(l:av cx.P fe m env I σ st.length s.heap)(g:Good cx.S cx.pre (Ej ev k fe m st a op b) (EB cx I σ st s Q)):
  wpAny cx.M A (isTrue (.Compare a [op] [b] pos) env w) Q E s:=by
 unfold Ej Aa at g
 split at g
 ·exact g.elim
 ·rename_i hm
  rw[aA.bind_assoc]at g;refine wpAny_isTrue_Compare1 (S.ee H l g fun bG aZ aX s₁ ji iX aV aO aY bD b9 aQ=> ?_) hm;rw[aA.bind_assoc]at aQ;refine S.ee aY bD aQ fun dj bH bW br Eh Ei bQ cK cP dX jO fL=> ?_;obtain⟨u,e,g'⟩:=kh (β:=V) (Good.bind fL);refine D6 cP (b9.mono bQ.le) jO e fun z t rz=> ?_;exact G2 (s:={br with toks:=t}) rz g' fun b gb=>gb dj bH _ {br with toks:=t} (aV.trans bQ) (aO.trans cK) rfl
theorem VT(S:aU cx ev)(H:au cx k A I σ st s)(l:av cx.P fe m env I σ st.length s.heap)(g:Good cx.S cx.pre (Rx ev k fe m st x) (EV cx I σ st s Q)):
  wpAny cx.M A (eval (.UnaryOp .Not x pos) env) Q E s:=by
 refine wpAny_UnaryOp (S.ee H l g fun bG aZ aX s₁ ji iX aV aO aY bD b9 aQ=> ?_);exact aN aQ fun b hb aQ=>not_value (zj b9 hb (by rw[wc];exact EV.tok (EV.into aQ aV aO) aY (.bool _) s₁.toks))
theorem VU(S:aU cx ev)(H:au cx k A I σ st s)(l:av cx.P fe m env I σ st.length s.heap)(g:Good cx.S cx.pre (Ry ev k fe m st x) (EV cx I σ st s Q)):
  wpAny cx.M A (eval (.UnaryOp .USub x pos) env) Q E s:=by
 refine wpAny_UnaryOp (S.ee H l g fun bG aZ aX s₁ ji iX aV aO aY bD b9 aQ=> ?_);exact aN aQ fun i hi aQ=>match zZ b9 hi with
  |.mk _=>P.neg_int (by rw[Tp];exact EV.tok (EV.into aQ aV aO) aY (.int _ _) _)
theorem VV(S:aU cx ev)(H:au cx k A I σ st s)(l:av cx.P fe m env I σ st.length s.heap)(g:Good cx.S cx.pre (RA ev k fe m st t a b) (EV cx I σ st s Q)):
  wpAny cx.M A (eval (.IfExp t a b pos) env) Q E s:=by
 refine wpAny_IfExp (S.tt H l g fun bG aZ aX s₁ c aV aO aY bD aQ=> ?_);induction c using qd with
 |true=>exact S.e aY bD (Good.mono (fun v gv=>EV.into gv aV aO) aQ)
 |false=>exact S.e aY bD (Good.mono (fun v gv=>EV.into gv aV aO) aQ)
theorem VW(S:aU cx ev)(H:au cx k A I σ st s)(l:av cx.P fe m env I σ st.length s.heap)(g:Good cx.S cx.pre (RB ev k fe m st es) (EV cx I σ st s Q)):
  wpAny cx.M A (eval (.Tuple es kk pos) env) Q E s:=by
 refine wpAny_Tuple_spliced (Dr S H l g fun bG aZ aX s₁ vs ys aV aO aY bD b9 aQ=> ?_);have fL:=bA aQ;have l1:=lJ fL.1;have e1:=b9.length;exact⟨by rw[sizeLine_eq];lia,LJ aY b9 (EV.into fL.2 aV aO)⟩
theorem Tz(S:aU cx ev)(H:au cx k A I σ st s)(l:av cx.P fe m env I σ st.length s.heap)(g:Good cx.S cx.pre (LN ev k fe m st es) (EV cx I σ st s Q)):
  wpAny cx.M A (eval (.List es pos) env) Q E s:=by
 refine wpAny_List_spliced (Dr S H l g fun bG aZ aX s₁ vs ys aV aO aY bD b9 aQ=> ?_);have fL:=bA aQ;have l1:=lJ fL.1;have e1:=b9.length;exact⟨by rw[sizeLine_eq];lia,O0 aY b9 (EV.into fL.2 aV aO)⟩
theorem VX(S:aU cx ev)(H:au cx k A I σ st s)(l:av cx.P fe m env I σ st.length s.heap)(g:Good cx.S cx.pre (RC ev k fe m st x y) (EV cx I σ st s Q)):
  wpAny cx.M A (eval (.BoolOp .And [x,y] pos) env) Q E s:=by
 refine wpAny_And2 (S.ee H l g fun bG aZ aX s₁ ji iX aV aO aY bD b9 aQ=> ?_);refine aN aQ fun b hb aQ=>zj b9 hb ?_;induction b using qd with
 |true=>exact S.e aY bD (Good.mono (fun v gv=>EV.into gv aV aO) aQ)
 |false=>exact EV.tok (EV.into aQ aV aO) aY b9 s₁.toks
theorem Y7(S:aU cx ev)(H:au cx k A I σ st s)(l:av cx.P fe m env I σ st.length s.heap)(g:Good cx.S cx.pre (VQ ev k fe m st x y) (EV cx I σ st s Q)):
  wpAny cx.M A (eval (.BoolOp .Or [x,y] pos) env) Q E s:=by
 refine wpAny_Or2 (S.ee H l g fun bG aZ aX s₁ ji iX aV aO aY bD b9 aQ=> ?_);refine aN aQ fun b hb aQ=>zj b9 hb ?_;induction b using qd with
 |false=>exact S.e aY bD (Good.mono (fun v gv=>EV.into gv aV aO) aQ)
 |true=>exact EV.tok (EV.into aQ aV aO) aY b9 s₁.toks
noncomputable def IQ(ev:Ev)(k:Nat)(fe:FE)(m:ai):List Expr→St→aA (Bool×St)
 |[],st=>.ok (true,st)
 |e::r,st=>(ev.t k fe m st e).bind fun p=>match p.1 with
  |true=>IQ ev k fe m r p.2
  |false=>.ok (false,p.2)
noncomputable def IS(ev:Ev)(k:Nat)(fe:FE)(m:ai):List Expr→St→aA (Bool×St)
 |[],st=>.ok (false,st)
 |e::r,st=>(ev.t k fe m st e).bind fun p=>match p.1 with
  |true=>.ok (true,p.2)
  |false=>IS ev k fe m r p.2
theorem LP(S:aU cx ev):∀{es:List Expr} {I:IM} {σ:Nat→Addr} {st:St} {s:Shared} {Q:Bool→SP},au cx k A I σ st s→av cx.P fe m env I σ st.length s.heap→
  Good cx.S cx.pre (IQ ev k fe m es st) (EB cx I σ st s Q)→wpAny cx.M A (allTrue .And es env) Q E s
 |[],I,σ,st,s,Q,H,l,g=>wpAny_allTrue_And_nil (g I σ true s (aM.refl H.rel) (bw.refl s) rfl)
 |e::es,I,σ,st,s,Q,H,l,g=>by
  refine wpAny_allTrue_And_cons (S.tt H l g fun bG aZ aX s₁ c aV aO aY bD aQ=> ?_);induction c using qd with
  |true=>exact LP S aY bD (Good.mono (fun v gv=>Ends.into gv aV aO) aQ)
  |false=>exact aQ bG aZ false s₁ aV aO rfl
theorem LQ(S:aU cx ev):∀{es:List Expr} {I:IM} {σ:Nat→Addr} {st:St} {s:Shared} {Q:Bool→SP},au cx k A I σ st s→av cx.P fe m env I σ st.length s.heap→
  Good cx.S cx.pre (IS ev k fe m es st) (EB cx I σ st s Q)→wpAny cx.M A (allTrue .Or es env) Q E s
 |[],I,σ,st,s,Q,H,l,g=>wpAny_allTrue_Or_nil (g I σ false s (aM.refl H.rel) (bw.refl s) rfl)
 |e::es,I,σ,st,s,Q,H,l,g=>by
  refine wpAny_allTrue_Or_cons (S.tt H l g fun bG aZ aX s₁ c aV aO aY bD aQ=> ?_);induction c using qd with
  |false=>exact LQ S aY bD (Good.mono (fun v gv=>Ends.into gv aV aO) aQ)
  |true=>exact aQ bG aZ true s₁ aV aO rfl
noncomputable def LR(ev:Ev)(k:Nat)(fe:FE)(m:ai)(st:St)(x:Expr):aA (Bool×St):=
 (ev.t k fe m st x).bind fun p=>.ok (i7 p.1,p.2)
theorem TA{w:Sem Value}{Q:Bool→SP}(S:aU cx ev)(H:au cx k A I σ st s)(l:av cx.P fe m env I σ st.length s.heap)(g:Good cx.S cx.pre (LR ev k fe m st x) (EB cx I σ st s Q)):
  wpAny cx.M A (isTrue (.UnaryOp .Not x pos) env w) Q E s:=by
 refine wpAny_isTrue_Not (S.tt H l g fun bG aZ aX s₁ c aV aO aY bD aQ=> ?_);rw[wc];exact aQ bG aZ _ s₁ aV aO rfl
noncomputable def wk(ev:Ev)(k:Nat)(fe:FE)(m:ai)(st:St)(x:Expr):aA (Bool×St):=
 (ev.e k fe m st x).bind fun p=>II p.2 p.1
theorem xK{Q:Bool→SP}(he:∀w,isTrue x env w=(do let v ←w;standAt x.pos;holding [v] (truthy v)))(S:aU cx ev)(H:au cx k A I σ st s)(l:av cx.P fe m env I σ st.length s.heap)
  (g:Good cx.S cx.pre (wk ev k fe m st x) (EB cx I σ st s Q)):wpAny cx.M A (isTrue x env (eval x env)) Q E s:=by
 refine wpAny_isTrue_value (S.ee H l g fun bG aZ aX s₁ ji iX aV aO aY bD b9 aQ=> ?_) (he _);exact G2 b9 aQ fun b gb=>gb bG aZ _ s₁ aV aO rfl
noncomputable def stepT(ev:Ev)(k:Nat)(fe:FE)(m:ai)(st:St)(x:Expr):aA (Bool×St):=match x with
 |.UnaryOp op x _=>match op with
  |.Not=>LR ev k fe m st x
  |_=>.bad
 |.BoolOp op xs _=>match op with
  |.And=>IQ ev k fe m xs st
  |.Or=>IS ev k fe m xs st
 |.Compare l nG rs _=>match nG with
  |[op]=>match rs with
   |[r]=>Ej ev k fe m st l op r
   |_=>.bad
  |_=>.bad
 |.IfExp _ _ _ _=>.bad
 |.Name a b=>wk ev k fe m st (.Name a b)
 |.Attribute a b c=>wk ev k fe m st (.Attribute a b c)
 |.Subscript a b c=>wk ev k fe m st (.Subscript a b c)
 |.Call a b c d=>wk ev k fe m st (.Call a b c d)
 |_=>.bad
theorem O8{Q:Bool→SP}(S:aU cx ev)(H:au cx k A I σ st s)(l:av cx.P fe m env I σ st.length s.heap)(g:Good cx.S cx.pre (stepT ev k fe m st x) (EB cx I σ st s Q)):
  wpAny cx.M A (isTrue x env (eval x env)) Q E s:=by
 induction x using PySem.Expr.casesOn with
 |UnaryOp op=>induction op using PySem.UnaryOp.casesOn with
  |Not=>exact TA S H l g
  |_=>exact g.elim
 |BoolOp op=>induction op using PySem.BoolOp.casesOn with
  |And=>exact wpAny_isTrue_BoolOp (LP S H l g)
  |Or=>exact wpAny_isTrue_BoolOp (LQ S H l g)
 |Compare e nG rs=>induction nG using qh with
  |nil=>exact g.elim
  |cons op nG=>induction nG using qh with
   |cons=>exact g.elim
   |nil=>induction rs using qh with
    |nil=>exact g.elim
    |cons r rs=>induction rs using qh with
     |nil=>exact Tw S H l g
     |cons=>exact g.elim
 |Name=>exact xK (fun _=>rfl) S H l g
 |Attribute=>exact xK (fun _=>rfl) S H l g
 |Subscript=>exact xK (fun _=>rfl) S H l g
 |Call=>exact xK (fun _=>rfl) S H l g
 |_=>exact g.elim
end
noncomputable def IT{α β:Type}(o:Option α)(x:Option β):Option β:=match o with
 |none=>x
 |some _=>none
theorem Cu{α β:Type}{o:Option α}{x:Option β}{r:β}(h:IT o x=some r):o=none∧x=some r:=by
 induction o using qe with
 |none=>exact⟨rfl,h⟩
 |some=>exact nn h
noncomputable def xM(p:Arguments):Option (List Arg):=fH (eu p.1) (IT p.3 (fH (eu p.4) (IT p.6 (some p.2))))
theorem IU{p:Arguments}{args:List Arg}(hp:xM p=some args):p=⟨[],args,none,[],p.5,none,p.7⟩:=by
 obtain⟨po,as,va,ko,kd,kw,dd⟩:=p;obtain⟨e2,e3⟩:=Cu (cW hp);obtain⟨e5,e6⟩:=Cu (cW e3);obtain rfl:=cI (cQ hp);obtain rfl:=cI (cQ e3);obtain rfl:=qc e6;cases e2
 cases e5
 rfl
noncomputable def jj(slots:List (Str×Value))(p:Str×Value):List (Str×Value):=if(slots.lookup p.1).isNone then slots++[p]else slots
theorem IV{α β:Type}(f:α→β→Sem (ForInStep β))(g:β→α→β)(h:∀x c,f x c=pure (.yield (g c x)))(l:List α):∀c,forIn l c f=pure (l.foldl g c):=by
 induction l with
 |nil=>exact fun c=>rfl
 |cons x l ih=>intro c;rw[List.forIn_cons,h,pure_bind];exact ih _
theorem ug{α:Type}{l:List (Str×α)}{x:Str}(h:x∉l.map (·.1)):l.lookup x=none:=by
 induction l with
 |nil=>rfl
 |cons p l ih=>
  rw[List.map_cons,List.mem_cons,not_or]at h;rw[List.lookup_cons,beq_eq_false_iff_ne.mpr h.1];exact ih h.2
theorem Ab{x:Str}{ns:List Str}:∀{vs:LV},ns.length≤vs.length→x∈ns→∃v,(ns.zip vs).lookup x=some v:=by
 induction ns with
 |nil=>exact fun _ h=>absurd h qL
 |cons n ns ih=>
  intro vs hl hx;induction vs using qh with
  |nil=>exact absurd hl (Nat.not_succ_le_zero _)
  |cons v vs=>
   rw[List.zip_cons_cons,List.lookup_cons];induction q:x==n using qd with
   |true=>exact⟨v,rfl⟩
   |false=>exact ih (Nat.le_of_succ_le_succ hl) ((List.mem_cons.mp hx).resolve_left (beq_eq_false_iff_ne.mp q))
theorem IW(L:List (Str×Value))(S:List (Str×Value))(h:∀p∈L,∃v,S.lookup p.1=some v):L.foldl jj S=S:=by
 induction L with
 |nil=>rfl
 |cons p L ih=>
  obtain⟨v,hv⟩:=h p qi;have:jj S p=S:=by rw[jj,hv];rfl
  rw[List.foldl_cons,this];exact ih fun q hq=>h q (qj _ hq)
theorem O9(L:List (Str×Value)):∀(S:List (Str×Value)),((S++L).map (·.1)).Nodup→L.foldl jj S=S++L:=by
 induction L with
 |nil=>exact fun S _=>(List.append_nil S).symm
 |cons p L ih=>
  intro S h;have:jj S p=S++[p]:=by
   rw[jj,ug fun hm=> ?_]
   ·rfl
   ·rw[List.map_append,List.map_cons]at h;exact(List.nodup_append.mp h).2.2 _ hm _ qi rfl
  rw[List.foldl_cons,this,List.append_cons S p L];exact ih _ (List.append_cons S p L▸h)
theorem Ek{α:Type}{V:List α}{M:List Str}:∀{N:List Str},V.length=N.length→(N++M).zip V=N.zip V:=by
 induction V with
 |nil=>intro N h;rw[List.zip_nil_right,List.zip_nil_right]
 |cons v V ih=>
  intro N h;induction N using qh with
  |nil=>exact absurd h (qS _)
  |cons n N=>exact congrArg _ (ih (Nat.succ.inj h))
theorem Dl{ns:List Str}:∀{vs:LV} {pre:List (Str×Value)},(pre.map (·.1)++ns).Nodup→ns.length=vs.length→
  ns.filterMap (fun n=>((pre++ns.zip vs).lookup n).map (n,·))=ns.zip vs:=by
 induction ns with
 |nil=>exact fun _ _=>rfl
 |cons n ns ih=>
  intro vs pre nd hl;induction vs using qh with
  |nil=>exact absurd hl (qS _)
  |cons v vs=>
   have e1:(pre++(n::ns).zip (v::vs)).lookup n=some v:=by
    rw[List.lookup_append,ug fun hm=>(List.nodup_append.mp nd).2.2 _ hm _ qi rfl,List.zip_cons_cons,List.lookup_cons,beq_self_eq_true];rfl
   rw[List.filterMap_cons,e1];refine congrArg (_::·) ?_;have:=ih (vs:=vs) (pre:=pre++[(n,v)]) (by rw[List.map_append,List.append_assoc];exact nd) (Nat.succ.inj hl)
   rwa [List.append_assoc]at this
theorem G9{α:Type}{N:List Str}:∀{V:List α},N.length=V.length→(N.zip V).map (·.1)=N:=by
 intro V h;exact List.map_fst_zip (qH h)
theorem Pa{N1 N2 N3:List Str}{V D2 D3:LV}(hV:V.length=(N1++N2).length)(h2:N2.length=D2.length)(h3:N3.length=D3.length)(nd:(N1++N2++N3).Nodup):
  ((N2++N3).zip (D2++D3)).foldl jj ((N1++N2++N3).zip V)=(N1++N2++N3).zip (V++D3):=by
 rw[List.zip_append h2,List.foldl_append,Ek hV,List.zip_append hV.symm,IW _ _ fun p hp=>Ab (qH hV.symm) (List.mem_append_right _ (List.of_mem_zip (a:=p.1) (b:=p.2) hp).1)];exact O9 _ _ (by rw[List.map_append,G9 hV.symm,G9 h3];exact nd)
theorem El{α:Type}{l:List α}{a b:Nat}(h:l.length=a+b):∃x y,l=x++y∧x.length=a∧y.length=b:=
 ⟨l.take a,l.drop a,(List.take_append_drop ..).symm,by rw[List.length_take,h];exact Nat.min_eq_left (qr ..),by rw[List.length_drop,h];exact Nat.add_sub_cancel_left ..⟩
theorem aaQ{n v d:Nat}(h1:v≤n)(h2:d≤n)(h3:n≤v+d):n=n-d+(v+d-n)+(n-v)∧d=v+d-n+(n-v)∧v=n-d+(v+d-n):=by omega
theorem aaR{a b c:Nat}:a+b+(b+c)-(a+b+c)=b:=by omega
theorem TF{ns:List Str}{vals ds D:LV}(hD:D=ds)(h1:vals.length≤ns.length)(h2:ds.length≤ns.length)(h3:ns.length≤vals.length+ds.length)(nd:ns.Nodup):
  (!((ns.take (ns.length-D.length)).filter fun n=>((ns.zip vals).lookup n).isNone).isEmpty)=false∧
  (ns++[]).filterMap (fun n=>((((ns.drop (ns.length-D.length)).zip D).foldl jj (ns.zip vals)).lookup n).map (n,·))=ns.zip (vals++ds.drop (vals.length+ds.length-ns.length)):=by
 subst hD;obtain⟨a,b,c,ea,eb,ec⟩:∃a b c,ns.length=a+b+c∧D.length=b+c∧vals.length=a+b:=⟨_,_,_,aaQ h1 h2 h3⟩;clear h1 h2 h3;obtain⟨N,N3,rfl,hN,Z5⟩:=El ea;obtain⟨N1,N2,rfl,hN1,hN2⟩:=El hN;obtain⟨D2,D3,rfl,Z6,Z7⟩:=El eb;have hV:vals.length=(N1++N2).length:=ec.trans hN.symm;rw[show(N1++N2++N3).length-(D2++D3).length=N1.length by rw[ea,eb,hN1,Nat.add_assoc,Nat.add_sub_cancel],show vals.length+(D2++D3).length-(N1++N2++N3).length=D2.length by rw[ec,eb,ea,Z6];exact aaR,List.append_nil,List.drop_left,List.append_assoc,List.take_left,List.drop_left,←List.append_assoc,Pa hV (hN2.trans Z6.symm) (Z5.trans Z7.symm) nd];refine⟨?_,Dl (pre:=[]) nd (by rw[List.length_append (as:=N1++N2),List.length_append (as:=vals),hV,Z5,Z7])⟩;rw[List.filter_eq_nil_iff.mpr fun x hx e=> ?_]
 ·rfl
 ·obtain⟨v,hv⟩:=Ab (x:=x) (qH hV.symm) (List.mem_append_left _ hx);rw[Ek hV,hv]at e;exact ft e
theorem Y8(h:(a&&b)=true):a=true:=by induction a using qd with|true=>rfl|false=>exact ft h
theorem uS{α β:Type}{x:Sem α}{a:α}{f:α→Sem β}(h:x=pure a):x>>=f=f a:=h▸pure_bind a f
theorem LU{as:List Arg}{kd:List (Option Expr)}{dd:List Expr}{vals:LV}(hp:fd.params=⟨[],as,none,[],kd,none,dd⟩)(h1:vals.length≤(as.map (·.arg)).length)(nd:(as.map (·.arg)).Nodup):
  ∃k,bindArgs fd ⟨vals,[]⟩=seqItems? fd.defaults>>=k∧∀o:Option (Array Value),(o.getD #[]).toList.length≤(as.map (·.arg)).length→(as.map (·.arg)).length≤vals.length+(o.getD #[]).toList.length→
   k o=pure ((as.map (·.arg)).zip (vals++(o.getD #[]).toList.drop (vals.length+(o.getD #[]).toList.length-(as.map (·.arg)).length))):=by
 unfold bindArgs;rw[hp];dsimp only[List.map_nil,List.nil_append];refine⟨_,uS List.forIn_nil,fun o h2 h3=> ?_⟩;obtain⟨R1,R2⟩:=TF (D:=(o.getD #[]).toList.drop ((o.getD #[]).toList.length-(as.map (·.arg)).length)) (by rw[Nat.sub_eq_zero_of_le h2,List.drop_zero]) h1 h2 h3 nd;exact(if_neg fun e=>absurd (of_decide_eq_true (Y8 e)) (Nat.not_lt.mpr h1)).trans ((if_neg fun e=>ft (R1.symm.trans e)).trans ((uS (IV _ jj (fun x c=>by rw[jj];split<;>rfl) _ _)).trans ((uS List.forIn_nil).trans ((if_neg qD).trans (congrArg pure R2)))))
theorem Em(hp:xM fd.params=some args)(h1:vals.length≤args.length)(h2:ds.length≤args.length)(h3:args.length≤vals.length+ds.length)(nd:(args.map (·.arg)).Nodup):
  ∃k,bindArgs fd ⟨vals,[]⟩=seqItems? fd.defaults>>=k∧∀o:Option (Array Value),(o.getD #[]).toList=ds→k o=pure ((args.map (·.arg)).zip (vals++ds.drop (vals.length+ds.length-args.length))):=by
 have L:args.length=(args.map (·.arg)).length:=(List.length_map ..).symm;rw[L]at h1 h2 h3⊢;obtain⟨k,hk,h⟩:=LU (IU hp) h1 nd;exact⟨k,hk,fun o ho=>ho▸h o (ho▸h2) (ho▸h3)⟩
noncomputable def namesOf:List Arg→List Str
 |[]=>[]
 |a::r=>a.arg::namesOf r
theorem uT(l:List Arg):namesOf l=l.map (·.arg):=by
 induction l with
 |nil=>rfl
 |cons a r ih=>exact congrArg (a.arg::·) ih
noncomputable def Pb(x:Str):List Str→Bool
 |[]=>false
 |y::l=>Cs (seq x y) (Pb x l)
noncomputable def rN:List Str→Bool
 |[]=>true
 |x::l=>eV (i7 (Pb x l)) (rN l)
theorem VY(h:b=true):Cs a b=true:=by induction a using qd with|true=>rfl|false=>exact h
theorem TG(h:x∈l):Pb x l=true:=by
 induction h with
 |head l=>exact(congrArg (Cs · _) (gz.mpr rfl:seq x x=true)).trans rfl
 |tail y _ ih=>exact VY ih
theorem uU(h:i7 a=true):a=false:=by induction a using qd with|false=>rfl|true=>exact ft h
theorem sJ(h:rN l=true):l.Nodup:=by
 induction l with
 |nil=>exact List.nodup_nil
 |cons x l ih=>exact List.nodup_cons.mpr ⟨fun hm=>tf ((TG hm).symm.trans (uU (bk h).1)),ih (bk h).2⟩
noncomputable def zm{α:Type}:List Str→List α→List (Str×α)
 |[],_=>[]
 |n::ns,vs=>match vs with
  |[]=>[]
  |v::vs=>(n,v)::zm ns vs
noncomputable def IX{α:Type}:Nat→List α→List α
 |0,l=>l
 |n+1,l=>match l with
  |[]=>[]
  |_::l=>IX n l
theorem Pc{α:Type}(n:Nat):∀(l:List α),IX n l=l.drop n:=by
 induction n with
 |zero=>exact fun _=>rfl
 |succ n ih=>intro l;induction l using qh with|nil=>rfl|cons x l=>exact ih l
noncomputable def Bx:NameKind→Bool:=fun k=>match k with
 |.cell=>true
 |_=>false
noncomputable def En:NameKind→Bool:=fun k=>match k with
 |.local=>true
 |_=>false
noncomputable def gI:List (Str×NameKind)→Bool
 |[]=>true
 |p::l=>eV (i7 (Bx p.2)) (gI l)
theorem m9(h:gI l=true):∀x∈l,x.2≠.cell:=by
 intro x hx;induction hx with
 |head l=>intro e;have:=uU (bk h).1;rw[e]at this;exact tf this
 |tail y _ ih=>exact ih (bk h).2
noncomputable def LX(cells:Bool)(o:Option NameKind):Bool:=match o with
 |some k=>Cs (En k) (eV cells (Bx k))
 |none=>false
theorem LY(h:LX cells o=true):o=some .local∨(cells=true∧o=some .cell):=by
 induction o using qe with
 |none=>exact ft h
 |some k=>induction k using PySem.NameKind.casesOn<;>first|exact .inl rfl|exact .inr ⟨(bk h).1,rfl⟩|exact ft (bk h).2
noncomputable def xN(names:List (Str×NameKind))(cells:Bool):List Str→Bool
 |[]=>true
 |x::l=>eV (LX cells (lk x names)) (xN names cells l)
theorem IY(h:xN names cells l=true):∀x∈l,names.lookup x=some .local∨(cells=true∧names.lookup x=some .cell):=by
 intro x hx;induction hx with
 |head l=>exact xB .. ▸LY (bk h).1
 |tail y _ ih=>exact ih (bk h).2
noncomputable def IZ(k:ScopeKind):Bool:=match k with
 |.function=>true
 |_=>false
theorem Eo(h:IZ k=true):k=.function:=by induction k using PySem.ScopeKind.casesOn<;>first|rfl|exact ft h
noncomputable def uh(s:Scope):Bool:=eV (IZ s.kind) (eV (i7 s.isGenerator) (i7 s.isCoroutine))
theorem p7(h:uh s=true):s.kind=.function∧s.isGenerator=false∧s.isCoroutine=false:=
 ⟨Eo (bk h).1,uU (bk (bk h).2).1,uU (bk (bk h).2).2⟩
noncomputable def uV(fd:FuncData)(ds args:List V):Option ai:=cD (xM fd.params) fun ps=>fH (rN (namesOf ps)) (fH (Nat.ble (len args) (len ps)) (fH (Nat.ble (len ds) (len ps)) (fH (Nat.ble (len ps) (Nat.add (len args) (len ds)))
 (fH (xN fd.scope.names (i7 (gI fd.scope.names)) (namesOf ps)) (some (zm (namesOf ps) (args++IX (Nat.sub (Nat.add (len args) (len ds)) (len ps)) ds)))))))
noncomputable def VZ:Out→Option V:=fun o=>match o with
 |.next=>some .none
 |.ret v=>some v
 |_=>none
noncomputable def xO(fd:FuncData)(ds:List V)(free:ai):Bool:=eV (uh fd.scope) (Cs (gI fd.scope.names) (eV (eu ds) (eu free)))
noncomputable def fV(ev:Ev)(k:Nat)(fd:FuncData)(ds:List V)(free:ai)(args:List V)(st:St):aA (V×St):=dR (xO fd ds free) (cz (uV fd ds args) fun m=>match fd.body with
 |.stmts body=>(ev.b k ⟨fd.scope,free⟩ m st body).bind fun p=>kW p.2 (VZ p.1.1)
 |.expr e=>dR (gI fd.scope.names) (ev.e k ⟨fd.scope,free⟩ m st e))
structure Hf (I:IM) (P:Params) (σ:Nat→Addr) (n:Nat) (a:Addr) (fd:FuncData) (ds:List V) (free:ai):Prop where
 at_:∃o,I a=some o∧o.data=.func fd
 code:∃c co vs t,fd.code=.ref c∧I c=some co∧co.data=.fields vs∧vs[1]? =some (.str fd.qualname t)
 glob:fd.globals=mainGlobals
 blt:fd.builtins=builtinsNs
 jw:iW I P σ n free fd.closure
 GY:(fd.defaults=.none∧ds=[])∨∃T m xs,fd.defaults=.ref T∧I T=some {cls:=.type "tuple",data:=.seq xs.toArray m}∧aG I P σ n ds xs∧ds≠[]
section
variable{cx:Cx}{st:St}{s:Shared}
theorem sH.deeper(f:sH (k+1) A):sH k (A.deeper env):=
 ⟨by have:=f.depth;show A.depth+1+2*k<_;lia,by have:=f.units;show A.units+3+12*k<_;lia,f.handled,f.guards⟩
theorem aM.strip(x:aM P X I σ n h I' af st' h')(hx:∀b,X b→h.get? b=none):aM P (fun _=>False) I σ n h I' af st' h':=
 ⟨x.le,x.fresh,x.new,x.rel,fun b o e _ hk=>x.keep b o e (fun q=>by rw[hx b q]at e;exact nn e) hk,x.alive⟩
theorem By{x:Str}{v:V}{ns:List Str}:∀{vs:List V} {ys:LV},aG I P σ n vs ys→lk x (zm ns vs)=some v→∃y,(x,y)∈ns.zip ys∧aq I P σ n v y:=by
 induction ns with
 |nil=>exact fun _ e=>nn e
 |cons m ns ih=>
  intro vs ys r e;induction vs using qh with
  |nil=>exact nn e
  |cons u vs=>
   replace r:=r.inv;induction r using dP.casesOn with
   |mk h r=>
    refine jh (b:=seq x m) e (fun q e=>⟨_,by rw[gz.mp q];exact qi,(qc e:u=v)▸h⟩) fun q e=> ?_;obtain⟨y,hy,ry⟩:=ih r e;exact⟨y,qj _ hy,ry⟩
theorem pP{α:Type}{l:List (Str×α)}{x:Str}{y:α}(nd:(l.map (·.1)).Nodup)(h:(x,y)∈l):l.lookup x=some y:=by
 induction l with
 |nil=>exact absurd h qL
 |cons p l ih=>
  rw[List.map_cons,List.nodup_cons]at nd;rw[List.lookup_cons];induction q:x==p.1 using qd with
  |true=>exact(List.mem_cons.mp h).elim (fun e=>e▸rfl) fun h=>absurd (beq_iff_eq.mp q▸List.mem_map.mpr ⟨(x,y),h,rfl⟩) nd.1
  |false=>exact ih nd.2 ((List.mem_cons.mp h).resolve_left fun e=>beq_eq_false_iff_ne.mp q (e▸rfl))
theorem I8{α:Type}{l:List (Str×α)}{x:Str}{y:α}(nd:(l.map (·.1)).Nodup)(h:(x,y)∈l):l.reverse.lookup x=some y:=
 pP (by rw[List.map_reverse];exact List.pairwise_reverse.mpr (nd.imp Ne.symm)) (List.mem_reverse.mpr h)
theorem LZ:∀{cs:List (Str×Addr)},iW I P σ n free cs→lk x free=some v→
  ∃c y co,cs.lookup x=some c∧I c=some co∧co.data=.cell (some y)∧aq I P σ n v y:=by
 induction free with
 |nil=>exact fun _ e=>nn e
 |cons p free ih=>
  intro cs r e;replace r:=r.inv;induction r using nD.casesOn with
  |mk g gd h r=>
   refine jh e (fun q e=>⟨_,_,_,by rw[List.lookup_cons,beq_iff_eq.mpr (gz.mp q)],g,gd,(qc e:p.2=v)▸h⟩) fun q e=> ?_;obtain⟨c,y,co,h1,h2⟩:=ih r e;exact⟨c,y,co,by rw[List.lookup_cons,beq_eq_false_iff_ne.mpr (iD.mp q)];exact h1,h2⟩
theorem cellsFrom_some:∀{n:Nat} {acc:List (Str×Addr)},(names.lookup x=some .cell∨∃c,acc.lookup x=some c)→∃c,(cellsFrom n names acc).lookup x=some c:=by
 induction names with
 |nil=>exact fun h=>h.resolve_left fun e=>nn e
 |cons p r ih=>
  intro n acc h;rw[List.lookup_cons]at h;rw[cellsFrom];induction q:x==p.1 using qd with
  |true=>
   rw[q]at h
   split
   ·exact ih (.inr ⟨n,by rw[List.lookup_cons,q]⟩)
   ·rename_i hk
    exact ih (.inr (h.resolve_left fun e=>hk (beq_iff_eq.mpr (qc e))))
  |false=>
   rw[q]at h
   split
   ·exact ih (h.imp id (by rintro⟨c,e⟩;exact⟨c,by rw[List.lookup_cons,q];exact e⟩))
   ·exact ih h
theorem Hg{G:List (Str×Value)→(Str→Option Value)→Str→Option Value}{f:Str→Value→(Str→Option Value)→Str→Option Value}(h0:∀m,G [] m=m)(h1:∀n v r m,G ((n,v)::r) m=G r (f n v m))(hx:∀v m,f x v m x=some v)
  (hy:∀n v m,x≠n→f n v m x=m x):∀{m:Str→Option Value},(mL.map (·.1)).Nodup→((x,y)∈mL∨(x∉mL.map (·.1)∧m x=some y))→G mL m x=some y:=by
 induction mL with
 |nil=>exact fun _ h=>(h0 _).symm▸(h.resolve_left qL).2
 |cons p r ih=>
  intro m nd h;rw[List.map_cons,List.nodup_cons]at nd;rw[h1];refine ih nd.2 ?_;rcases h with h|⟨h,e⟩
  ·rcases List.mem_cons.mp h with h|h
   ·subst h;exact .inr ⟨nd.1,hx y m⟩
   ·exact .inl h
  ·rw[List.map_cons,List.mem_cons,not_or]at h;exact .inr ⟨h.2,(hy _ _ _ h.1).trans e⟩
theorem Pd{kindOf:Str→Option NameKind}{mL:List (Str×Value)}(nd:(mL.map (·.1)).Nodup)(hk:kindOf x=some .local)(h:(x,y)∈mL):bindL kindOf mL m x=some y:=
 Hg (G:=bindL kindOf) (fun _=>rfl) (fun _ _ _ _=>rfl) (fun v m=>by rw[if_pos hk,if_pos rfl]) (fun n v m q=>by split<;>first|exact if_neg q|rfl) nd (.inl h)
theorem Pe{kindOf:Str→Option NameKind}{mL:List (Str×Value)}(nd:(mL.map (·.1)).Nodup)(hk:kindOf x=some .cell)(h:(x,y)∈mL):bindC kindOf mL m x=some y:=
 Hg (G:=bindC kindOf) (fun _=>rfl) (fun _ _ _ _=>rfl) (fun v m=>by rw[if_neg (by rw[hk];decide),if_pos rfl]) (fun n v m q=>by split<;>first|rfl|exact if_neg q) nd (.inl h)
theorem map_fst_zip{ns:List Str}:∀{vs:LV},((ns.zip vs).map (·.1)).Sublist ns:=by
 induction ns with
 |nil=>exact .slnil
 |cons n ns ih=>intro vs;induction vs using qh with|nil=>exact List.nil_sublist _|cons v vs=>exact ih.cons_cons _
theorem wu{ns:List Str}{vs:LV}(nd:ns.Nodup):((ns.zip vs).map (·.1)).Nodup:=map_fst_zip.nodup nd
theorem yC{a:Addr}{free:List (Str×V)}{ns:List Str}{vs:List V}{ys:LV}{h₀:Heap}(H:au cx k A I σ st s)(yD:uh fd.scope=true)(hg:fd.globals=mainGlobals)(hb:fd.builtins=builtinsNs)
  (hc:gI fd.scope.names=true)(nd:ns.Nodup)(r:aG I cx.P σ st.length vs ys)(rf:iW I cx.P σ st.length free fd.closure)
  (um:h₀.Ns s.heap.objs.size (fun x=>(ns.zip ys).reverse.lookup x))(kp:∀b o,s.heap.get? b=some o→h₀.get? b=some o):
  av cx.P ⟨fd.scope,free⟩ (zm ns vs) (callEnv fd s.heap.objs.size a) I σ st.length h₀:=by
 have nc:∀x,(callEnv fd s.heap.objs.size a).kindOf x≠some .cell:=fun x e=>m9 hc _ (zS ((xB ..).trans (e:fd.scope.names.lookup x=_))) rfl;have dz:=dD s.heap;have ow:∀b,aF (callEnv fd s.heap.objs.size a) b→b=s.heap.objs.size:=fun b ob=>by
  rcases ob with h|⟨x,hx,_⟩
  ·exact h
  ·exact absurd hx (nc x)
 refine⟨rfl,(p7 yD).1,hg,hb,⟨_,um,fun x v e hk=> ?_⟩,fun x v e hk=>absurd hk (nc x),fun x hk=>absurd hk (nc x),fun x v e hk=> ?_,fun b ob=> ?_,fun x c hk _=>absurd hk (nc x),fun x y c hk=>absurd hk (nc x)⟩
 ·obtain⟨y,hm,ry⟩:=By r e;exact⟨y,I8 (wu nd) hm,ry⟩
 ·obtain⟨c,y,co,h1,h2,h2',h3⟩:=LZ rf e;have hs:=H.rel.sub _ _ h2;refine⟨c,y,h1,⟨_,kp _ _ hs,h2'⟩,h3,fun ob=> ?_,fun j hj z=> ?_⟩
  ·rw[ow c ob,dz]at hs;exact nn hs
  ·have:=H.rel.out j hj;rw[z,h2]at this;cases this
 ·obtain rfl:=ow b ob;refine⟨H.rel.OJ,fun j hj z=> ?_⟩;obtain⟨o,ho⟩:=H.rel.live hj;rw[z,dz]at ho;exact nn ho
theorem Gy{a:Addr}{ns:List Str}{vs:List V}{ys:LV}{s₁:Shared}(H:au cx k A I σ st s)(yD:uh fd.scope=true)(hg:fd.globals=mainGlobals)(hb:fd.builtins=builtinsNs)
  (nd:ns.Nodup)(r:aG I cx.P σ st.length vs ys)
  (x:InCallC s (callEnvC fd s.heap.objs.size a).locals (bindL (callEnvC fd s.heap.objs.size a).kindOf (ns.zip ys) fun _=>none) (callEnvC fd s.heap.objs.size a).cells (bindC (callEnvC fd s.heap.objs.size a).kindOf (ns.zip ys) fun _=>none) s₁):
  av cx.P ⟨fd.scope,[]⟩ (zm ns vs) (callEnvC fd s.heap.objs.size a) I σ st.length s₁.heap:=by
 have dead:∀b,s.heap.objs.size≤b→s.heap.get? b=none:=fun b hb=>by
  induction q:s.heap.get? b using qe with
  |none=>rfl
  |some o=>exact absurd (Heap.lt_size q) (Nat.not_lt.mpr hb)
 have cl:∀x,(callEnvC fd s.heap.objs.size a).kindOf x=some .cell→∃c,(callEnvC fd s.heap.objs.size a).cells.lookup x=some c:=fun x hk=>
  cellsFrom_some (.inl hk)
 have ow:∀b,aF (callEnvC fd s.heap.objs.size a) b→s.heap.objs.size≤b:=fun b ob=>by
  rcases ob with h|⟨z,_,hc⟩
  ·exact h▸qf _
  ·exact qK (x.above z b (mem_of_lookup hc))
 refine⟨rfl,(p7 yD).1,hg,hb,⟨_,x.toInCall.ns,fun z v e hk=> ?_⟩,fun z v e hk=> ?_,fun z hk=> ?_,fun z v e hk=>(nomatch e),fun b ob=> ?_,fun z c hk hc=> ?_,fun z y c hk nE hc L3=> ?_⟩
 ·obtain⟨y,hm,ry⟩:=By r e;exact⟨y,Pd (wu nd) hk hm,ry⟩
 ·obtain⟨y,hm,ry⟩:=By r e;obtain⟨c,hc⟩:=cl z hk;have:=x.cell z c hc;rw[Pe (wu nd) hk hm]at this;exact⟨c,y,hc,this,ry⟩
 ·obtain⟨c,hc⟩:=cl z hk;exact⟨c,_,hc,x.cell z c hc⟩
 ·have:=ow b ob;refine⟨H.rel.pX (dead b this),fun j hj z=> ?_⟩;obtain⟨o,ho⟩:=H.rel.live hj;rw[z,dead b this]at ho;exact nn ho
 ·exact Nat.ne_of_gt (x.above z c (mem_of_lookup hc))
 ·exact name_of_addr x.apart (mem_of_lookup hc) (mem_of_lookup L3)
theorem RD{α β:Type}{l:List α}{m:List β}(h:Nat.ble (len l) (len m)=true):l.length≤m.length:=by
 rw[←i6,←i6];exact qo h
theorem aG.drop{P:Params}{n:Nat}{j:Nat}:∀{vs:List V} {xs:LV},aG I P σ n vs xs→aG I P σ n (vs.drop j) (xs.drop j):=by
 induction j with
 |zero=>exact fun r=>r
 |succ j ih=>
  intro vs xs r;induction vs using qh with
  |nil=>rw[show xs=[]from r.inv];exact .nil
  |cons v vs=>
   replace r:=r.inv;induction r using dP.casesOn with|mk h r=>exact ih r
theorem L4{fd:FuncData}{ds args:List V}{m:ai}(h:uV fd ds args=some m):∃ps,xM fd.params=some ps∧(ps.map (·.arg)).Nodup∧args.length≤ps.length∧ds.length≤ps.length∧ps.length≤args.length+ds.length∧
  xN fd.scope.names (i7 (gI fd.scope.names)) (namesOf ps)=true∧m=zm (ps.map (·.arg)) (args++ds.drop (args.length+ds.length-ps.length)):=aK h fun ps h1 h=>by
 have h2:=cW h;have h3:=cW h2;have h4:=cW h3;have h5:=cW h4;have l3:=qo (cQ h4);have e:=qc (cW h5);rw[show Nat.add (len args) (len ds)=len args+len ds from rfl,i6,i6,i6]at l3;rw[Pc,show Nat.sub (Nat.add (len args) (len ds)) (len ps)=len args+len ds-len ps from rfl,i6,i6,i6,uT]at e;exact⟨ps,h1,uT ps▸sJ (cQ h),RD (cQ h2),RD (cQ h3),l3,cQ h5,e.symm⟩
theorem Hh(F:Hf I cx.P σ st.length a fd ds free)(Pf:∀b o,I b=some o→s.heap.get? b=some o)(r:aG I cx.P σ st.length args ys)(hm:uV fd ds args=some m):
  ∃ns vs zs,ns.Nodup∧(∀x∈ns.zip zs,fd.scope.names.lookup x.1=some .local∨(i7 (gI fd.scope.names)=true∧fd.scope.names.lookup x.1=some .cell))∧m=zm ns vs∧aG I cx.P σ st.length vs zs∧
   BindsTo s fd ⟨ys,[]⟩ (ns.zip zs)∧(ds=[]→bindArgs fd ⟨ys,[]⟩=pure (ns.zip zs)):=by
 obtain⟨ps,L5,nd,l1,l2,l3,Ad,em⟩:=L4 hm;have hk:∀zs:LV,∀x∈(ps.map (·.arg)).zip zs,fd.scope.names.lookup x.1=some .local∨(i7 (gI fd.scope.names)=true∧fd.scope.names.lookup x.1=some .cell):=fun zs x hx=>IY Ad x.1 (uT ps▸(List.of_mem_zip (a:=x.1) (b:=x.2) hx).1);rw[←r.length]at l1 l3;rcases F.GY with⟨q1,rfl⟩|⟨T,n,xs,q1,q2,q3,q4⟩
 ·obtain⟨kk,b1,b2⟩:=Em (ds:=[]) L5 l1 l2 l3 nd;rw[q1]at b1;have b:=b1.trans ((pure_bind _ _).trans (b2 none rfl));rw[List.drop_nil,List.append_nil]at b em;exact⟨_,_,ys,nd,hk _,em,r,BindsTo.of_eq b,fun _=>b⟩
 ·rw[←q3.length]at l2 l3;obtain⟨kk,b1,b2⟩:=Em L5 l1 l2 l3 nd;rw[←r.length,←q3.length]at em;exact⟨_,_,_,nd,hk _,em,r.append q3.drop,BindsTo.of_defaults q1 (Pf _ _ q2) rfl b1 (b2 _ rfl),fun q=>absurd q q4⟩
theorem Hf.Pg(F:Hf I cx.P σ st.length a fd ds free)(Pf:∀b o,I b=some o→s.heap.get? b=some o):s.heap.CodeRec fd.code fd.qualname:=
 (by obtain⟨c,co,vs,t,q1,q2,q3,q4⟩:=F.code;exact⟨c,co,vs,t,q1,Pf _ _ q2,q3,q4⟩)
set_option backward.match.sparseCases true in
theorem Ep(H:au cx (k+1) A I σ st s)(F:Hf I cx.P σ st.length a fd ds free)
  (r:aG I cx.P σ st.length args ys)(Cv:xO fd ds free=true)(hm:uV fd ds args=some m)(nI:fd.body=.stmts body)
  (h:∀env s₁,((gI fd.scope.names=true∧env=callEnv fd s.heap.objs.size a)∨(gI fd.scope.names=false∧env=callEnvC fd s.heap.objs.size a))→(∀b,aF env b→s.heap.get? b=none)→(∀b o,s.heap.get? b=some o→s₁.heap.get? b=some o)→bw s s₁→sH k (A.deeper env)→
   av cx.P ⟨fd.scope,free⟩ m env I σ st.length s₁.heap→∀E':dU,wpAny cx.M (A.deeper env) (execs body env) (fun f s'=>R (.ok (.ret (match f with|.ret v=>v|_=>.none))) s') E' s₁):codeAny cx.M A (.call (.ref a) ⟨ys,[]⟩) R s:=by
 obtain⟨yD,L6⟩:=bk Cv;obtain⟨sk,sg,sc⟩:=p7 yD;obtain⟨o,ho,hd⟩:=F.at_;obtain⟨ns,vs,zs,nd,Ad,rfl,I9,Ja,hb⟩:=Hh F H.rel.sub r hm;have V0:A.depth<recursionLimit:=by have:=H.fit.depth;lia
 induction vK:gI fd.scope.names using qd with
 |true=>
  rw[vK]at Ad h;refine codeAny_call_def V0 (H.rel.sub _ _ ho) hd (H.base.limit H.rel.sub) (F.Pg H.rel.sub) nI Ja (m9 vK) (fun z hz=>(Ad z hz).resolve_right fun q=>ft q.1) (fun h₀ um kp=> ?_) sc sg sk;refine h _ {s with heap:=h₀,toks:=s.toks+_} (.inl ⟨rfl,rfl⟩) (fun b ob=> ?_) kp ⟨rfl,rfl,rfl⟩ H.fit.deeper (yC H yD F.glob F.blt vK nd I9 F.jw um kp) _;rcases ob with q|⟨z,hz,_⟩
  ·rw[q];exact dD _
  ·exact absurd rfl (m9 vK _ (zS ((xB ..).trans (hz:fd.scope.names.lookup z=_))))
 |false=>
  rw[vK]at Ad h L6;obtain⟨q1,q2⟩:=bk (L6:eV _ _=true);obtain rfl:=cI q2;have jw:fd.closure=[]:=by
   have c:=F.jw.inv;induction wz:fd.closure using qh with
   |nil=>rfl
   |cons=>rw[wz]at c;cases c
  refine codeAny_call_cells V0 (H.rel.sub _ _ ho) hd (H.base.limit H.rel.sub) (F.Pg H.rel.sub) nI (hb (cI q1)) jw (fun z hz=>(Ad z hz).imp id fun q=>⟨q.2,Option.isSome_iff_exists.mpr (cellsFrom_some (.inl q.2))⟩) (fun s₁ x=> ?_) sc sg sk;obtain⟨h',tk,es,kp⟩:=x.done;refine h _ _ (.inr ⟨rfl,rfl⟩) (fun b ob=> ?_) x.toInCall.keep (es▸⟨rfl,rfl,rfl⟩) H.fit.deeper (Gy H yD F.glob F.blt nd I9 x) _;rcases ob with q|⟨z,_,L3⟩
  ·rw[q];exact dD _
  ·induction q:s.heap.get? b using qe with
   |none=>rfl
   |some o'=>exact absurd (Heap.lt_size q) (Nat.not_lt.mpr (qK (x.above z b (mem_of_lookup L3))))
set_option backward.match.sparseCases true in
theorem TH(S:aU cx ev){R:Result→Shared→Prop}(hR:∀v s',Q v s'→R (.ok (.ret v)) s')(H:au cx (k+1) A I σ st s){env:Env}{s₁:Shared}(rO:∀b,aF env b→s.heap.get? b=none)
  (kp:∀b o,s.heap.get? b=some o→s₁.heap.get? b=some o)(sm:bw s s₁)(hf:sH k (A.deeper env))(l:av cx.P fe m env I σ st.length s₁.heap)(g:Good cx.S cx.pre ((ev.b k fe m st body).bind fun p=>kW p.2 (VZ p.1.1)) (EV cx I σ st s Q)):
  wpAny cx.M (A.deeper env) (execs body env) (fun f s'=>R (.ok (.ret (match f with|.ret v=>v|_=>.none))) s') E s₁:=by
 have ex:=aM.grow H.rel kp;refine S.b ⟨hf,H.base,ex.rel⟩ l (Good.mono (fun p gp I' af f s' x Cw ro=> ?_) (Good.bind g));obtain⟨⟨out,m'⟩,st'⟩:=p;obtain⟨v,hv,gp⟩:=kh (β:=V) gp;have x':=aM.strip ((ex.weaken (fun _ q=>q.elim)).trans x) rO;replace ro:=ro.1;induction out using Out.casesOn with
 |next=>obtain rfl:=ro;exact hR _ _ (gp I' af _ s' x' (sm.trans Cw) (qc hv▸.none))
 |ret u=>obtain⟨_,rfl,h⟩:=ro;exact hR _ _ (gp I' af _ s' x' (sm.trans Cw) ((qc hv:u=v)▸h))
 |brk=>exact nn hv
 |cont=>exact nn hv
theorem TJ(S:aU cx ev){fd:FuncData}{ds args:List V}{free:List (Str×V)}{a:Addr}(hR:∀v s',Q v s'→R (.ok (.ret v)) s')(H:au cx (k+1) A I σ st s)(F:Hf I cx.P σ st.length a fd ds free)
  (r:aG I cx.P σ st.length args ys)(yD:uh fd.scope=true)(hm:uV fd ds args=some m)(nI:fd.body=.expr body)(vK:gI fd.scope.names=true)(g:Good cx.S cx.pre (ev.e k ⟨fd.scope,free⟩ m st body) (EV cx I σ st s Q)):codeAny cx.M A (.call (.ref a) ⟨ys,[]⟩) R s:=by
 obtain⟨sk,sg,sc⟩:=p7 yD;obtain⟨o,ho,hd⟩:=F.at_;obtain⟨ns,vs,zs,nd,Ad,rfl,I9,Ja,_⟩:=Hh F H.rel.sub r hm;rw[vK]at Ad;refine kla_callFunE (by have:=H.fit.depth;lia) (H.rel.sub _ _ ho) hd sc sg nI (F.Pg H.rel.sub) (Ja _ _ _ _ ?_);refine wpAny_newFunctionEnv (m9 vK) (fun z hz=>(Ad z hz).resolve_right fun q=>ft q.1) (fun h₀ V2 L7=>⟨(H.base.limit H.rel.sub).fresh _ L7,kla_codeExpr ?_⟩) sk;have kp:∀b o,s.heap.get? b=some o→h₀.get? b=some o:=fun b o e=>L7.extBut b o (Nat.ne_of_lt (Heap.lt_size e)) (Heap.get?_push_of_some _ e);have ex:=aM.grow H.rel kp;exact S.e (s:={s with heap:=h₀,toks:=_}) ⟨H.fit.deeper,H.base,ex.rel⟩ (yC H yD F.glob F.blt vK nd I9 F.jw V2 kp) (Good.mono (fun p gp I' af y s' x sm ro=>hR _ _ (gp I' af y s' (ex.trans x) sm ro)) g)
theorem RE(S:aU cx ev)(H:au cx (k+1) A I σ st s)(F:Hf I cx.P σ st.length a fd ds free)
  (r:aG I cx.P σ st.length args ys)(hR:∀v s',Q v s'→R (.ok (.ret v)) s')(g:Good cx.S cx.pre (fV ev k fd ds free args st) (EV cx I σ st s Q)):codeAny cx.M A (.call (.ref a) ⟨ys,[]⟩) R s:=by
 obtain⟨Cv,g⟩:=bA g;refine aN g fun m hm g=> ?_;induction nI:fd.body using PySem.FuncBody.casesOn with
 |stmts body=>
  rw[nI]at g;exact Ep H F r Cv hm nI fun env s₁ _ rO kp sm hf l E'=>TH S hR H rO kp sm hf l g
 |expr body=>
  rw[nI]at g;obtain⟨vK,g⟩:=bA g;exact TJ S hR H F r (bk Cv).1 hm nI vK g
end
noncomputable def BA:V→Bool:=fun v=>match v with
 |.none=>true
 |_=>false
noncomputable def L8(a:Addr):List (Addr×Addr)→Option Addr
 |[]=>none
 |p::l=>match Nat.beq a p.1 with
  |true=>some p.2
  |false=>L8 a l
theorem TL(e:L8 a l=some b):(a,b)∈l:=by
 induction l with
 |nil=>exact nn e
 |cons p l ih=>
  rw[L8.eq_2]at e;induction q:Nat.beq a p.1 using qd with
  |true=>rw[q]at e;rw[qt q,←qc e];exact .head _
  |false=>rw[q]at e;exact .tail _ (ih e)
noncomputable def V3(l:List V):Option V:=match l with
 |[]=>none
 |x::l=>fH (eu l) (some x)
theorem TM(h:V3 l=some x):l=[x]:=by
 induction l using qh with
 |nil=>exact nn h
 |cons y l=>
  induction l using qh with
  |nil=>exact congrArg (· ::[]) (qc h)
  |cons=>exact nn h
noncomputable def Jb{β:Type}(k:Nat)(f:Nat→aA β):aA β:=match k with
 |0=>.bad
 |k+1=>f k
noncomputable def TN(cx:Cx)(ev:Ev)(k:Nat)(a:Addr)(args:List V)(st:St):aA (V×St):=Jb k fun k=>cz (L8 a cx.tab.T.makes) fun f=>cz (n6 f cx.tab.fns) fun fd=>
 (fV ev k fd.1 fd.2 [] (.loc (Nat.succ st.length)::args) ((st++[.dict []])++[.inst a st.length])).bind fun p=>dR (BA p.1) (.ok (.loc (Nat.succ st.length),p.2))
noncomputable def BB(cx:Cx)(ev:Ev)(k:Nat)(a:Addr)(args:List V)(st:St):aA (V×St):=match nH a cx.tab.asks with
 |true=>.ask (Nat.succ k) a args st fun v st'=>.ok (v,st')
 |false=>match n6 a cx.tab.fns with
  |some fd=>fV ev k fd.1 fd.2 [] args st
  |none=>TN cx ev k a args st
noncomputable def Ae:ai→List Str
 |[]=>[]
 |p::l=>p.1::Ae l
noncomputable def Ds:ai→List V
 |[]=>[]
 |p::l=>.str p.1::Ds l
noncomputable def Cy(st:St)(fs:ai):aA (V×St):=dR (rN (Ae fs)) (.need (fs.length<500) (.ok (.loc st.length,st++[.list [] (Ds fs)])))
noncomputable def Hi(t:TY)(args:List V)(st:St):aA (V×St):=match t with
 |.list=>cz (V3 args) fun v=>match oB st v with
  |some fs=>Cy st fs
  |none=>Eg t args st
 |_=>Eg t args st
noncomputable def RG(cx:Cx)(ev:Ev)(k:Nat)(f:V)(args:List V)(st:St):aA (V×St):=match f with
 |.bi b=>z8 cx b args st
 |.ty t=>Hi t args st
 |.top a=>Jb k fun k=>BB cx ev k a args st
 |.jw fd free=>Jb k fun k=>fV ev k fd [] free args st
 |_=>.bad
def Kept(cx:Cx):Prop:=∀{d:Nat} {a:Addr} {A:Around} {I:IM} {σ:Nat→Addr} {st:St} {s:Shared} {E:dU} {args:List V} {ys:LV} {Q:dU} {W:V→St→Prop},
 nH a cx.tab.asks=true→au cx d A I σ st s→aG I cx.P σ st.length args ys→cx.S d a args st W→(∀v st',W v st'→EV cx I σ st s Q (v,st'))→wpAny cx.M A (call (.ref a) ys) Q E s
section
variable{cx:Cx}{st:St}
theorem V4(e:n6 a cx.tab.fns=some fd):(a,fd.1,fd.2)∈cx.tab.fns:=q9 e
theorem Er(S:aU cx ev)(e:n6 a cx.tab.fns=some fd)(H:au cx (k+1) A I σ st s)(r:aG I cx.P σ st.length args ys)
  (hR:∀v s',Q v s'→R (.ok (.ret v)) s')(g:Good cx.S cx.pre (fV ev k fd.1 fd.2 [] args st) (EV cx I σ st s Q)):codeAny cx.M A (.call (.ref a) ⟨ys,[]⟩) R s:=by
 obtain⟨⟨o,h1,h2,h3⟩,hc,gl,bl,cl,df⟩:=H.base.fns a fd.1 fd.2 (V4 e);exact RE S H ⟨⟨o,h1,h3⟩,hc,gl,bl,cl▸.nil,df.imp id (by rintro⟨T,n,xs,e1,e2,e3,e4⟩;exact⟨T,n,xs,e1,e2,e3.mono (Le.zero fun _ _ e=>e),e4⟩)⟩ r hR g
theorem sH.made(f:sH (k+1) A):sH k (A.under (.builtin "type.__call__" ⟨.ref C::rest,kw⟩)):=by
 have w:Code.weight (.builtin "type.__call__" ⟨.ref C::rest,kw⟩)=1:=by unfold Code.weight;rfl
 have u:Code.cUnits (.builtin "type.__call__" ⟨.ref C::rest,kw⟩)=1:=rfl;refine⟨?_, ?_,f.handled,by unfold Around.under;rw[f.guards];unfold Code.guards;simp only[Code.isGuard];rfl⟩
 ·have:=f.depth;show A.depth+_+2*k<_;rw[w];lia
 ·have:=f.units;show A.units+_+12*k<_;rw[u];lia
theorem Ma(R:cG cx.P I σ st h)(C:Addr):∃af,aM cx.P (fun _=>False) I σ st.length h I af ((st++[AO.dict []])++[AO.inst C st.length]) ((h.push emptyDict).push (instObj C h.objs.size))∧
  aq I cx.P af ((st++[AO.dict []])++[AO.inst C st.length]).length (.loc (Nat.succ st.length)) (.ref (h.objs.size+1)):=by
 have x1:=aM.zQ (o:=emptyDict) (ao:=.dict []) R rfl (dw.dict (es:=[]) 0 .nil);have ln:(st++[AO.dict []]).length=st.length+1:=List.length_append;generalize gj σ st.length h.objs.size=aZ,(eG .. :gj σ st.length h.objs.size st.length=_)=e1 at x1;have x2:=aM.zQ (o:=instObj C h.objs.size) (ao:=.inst C st.length) x1.rel rfl (by
  have:=dw.inst (I:=I) (P:=cx.P) (σ:=gj aZ (st++[AO.dict []]).length (h.push emptyDict).objs.size) (n:=(st++[AO.dict []]).length+1) C st.length (by rw[ln];exact pS);rw[jx _ (by rw[ln];exact iR),e1]at this;exact this)
 refine⟨_,x1.trans x2, ?_⟩;have:=aq.loc (I:=I) (P:=cx.P) (σ:=gj aZ (st++[AO.dict []]).length (h.push emptyDict).objs.size) (n₀:=((st++[AO.dict []])++[AO.inst C st.length]).length) (st++[AO.dict []]).length (by simp);rw[eG]at this;exact cast (congr (congrArg (aq I cx.P _ _) (congrArg V.loc ln)) (congrArg Value.ref (Heap.size_push h emptyDict))) this
theorem Jc(h:BA v=true):v=.none:=by induction v using V.casesOn<;>first|rfl|exact ft h
theorem TP(S:aU cx ev)(hm:L8 C cx.tab.T.makes=some f)(e:n6 f cx.tab.fns=some fd)(H:au cx (k+1+1) A I σ st s)(r:aG I cx.P σ st.length args ys)
  (g:Good cx.S cx.pre ((fV ev k fd.1 fd.2 [] (.loc (Nat.succ st.length)::args) ((st++[.dict []])++[.inst C st.length])).bind fun p=>dR (BA p.1) (.ok (.loc (Nat.succ st.length),p.2))) (EV cx I σ st s Q)):wpAny cx.M A (call (.ref C) ys) Q E s:=by
 obtain⟨h,gg,d,t,os⟩:=s;have X:=H.base.zO H.rel.sub;have ok:=List.all_eq_true.mp H.base.tabs.makes _ (TL hm);simp only[Lb,Bool.and_eq_true,beq_iff_eq]at ok;refine wpAny_call (make_core (makes_of X ok.1.1) (looks_findIn X ok.1.2) (fun Es=>bind_fn X Es ok.2) (.inl rfl) ?_);obtain⟨af,x,rs⟩:=Ma H.rel C;refine Er S (Q:=fun v s'=>v=.none∧Q (.ref (h.objs.size+1)) s') (s:=⟨(h.push emptyDict).push (instObj C h.objs.size),gg,d,t,os⟩) e ⟨H.fit.made,H.base,x.rel⟩ (.cons rs (r.mono x.le)) (fun v s' hv=>hv) ?_;refine Good.mono (fun p gp I' af y s' x' sm ry=> ?_) (Good.bind g);obtain⟨hn,gp⟩:=bA gp;replace ry:=ry.inv;rw[Jc hn]at ry;subst ry;exact⟨rfl,gp I' af _ s' (x.trans x') sm (rs.mono x'.le)⟩
theorem Et(l:ai):Ae l=l.map (·.1):=by
 induction l with
 |nil=>rfl
 |cons p l ih=>exact congrArg (p.1::·) ih
theorem Mb(w:World)(hw:w.params=P)(prog:Program):∀{es:List DictEntry},bF I P σ n fs es→∃kvs:List (Str×Value),Pairs (strKind prog w) es kvs∧kvs.map (·.1)=fs.map (·.1):=by
 induction fs with
 |nil=>intro es r;replace r:=r.inv;subst r;exact⟨[],.nil,rfl⟩
 |cons p fs ih=>
  intro es r;replace r:=r.inv;induction r using gh.casesOn with
  |mk h r=>exact(by obtain⟨kvs,q,e⟩:=ih r;exact⟨(p.1,_)::kvs,.cons (strKind_is prog w p.1 _) rfl q,congrArg (p.1::·) e⟩)
theorem Ph{K:Str→Value→Prop}(hK:∀x v,K x v→∃t,v=.str x t){fs:ai}:∀{kvs:List (Str×Value)} {xs:LV},kvs.map (·.1)=fs.map (·.1)→xs.length=kvs.length→
  (∀(j:Nat) (v:Value),xs[j]? =some v→∃(k:Str) (x:Value),kvs[j]? =some (k,x)∧K k v)→aG I P σ n (Ds fs) xs:=by
 induction fs with
 |nil=>
  intro kvs xs h1 h2 _;rw[List.map_eq_nil_iff.mp h1]at h2;rw[List.length_eq_zero_iff.mp h2];exact .nil
 |cons p fs ih=>
  intro kvs xs h1 h2 h3;induction kvs using qh with
  |nil=>exact absurd (congrArg List.length h1).symm (qS _)
  |cons q kvs=>
   induction xs using qh with
   |nil=>exact absurd h2.symm (qS _)
   |cons x xs=>
    obtain⟨kk,xx,e3,e4⟩:=h3 0 x rfl;obtain⟨t,e5⟩:=hK _ _ e4;obtain⟨e6,e7⟩:=List.cons.inj h1;rw[e5,show kk=p.1 from(congrArg Prod.fst (qc e3)).symm.trans e6];exact .cons (.str _ _) (ih e7 (Nat.succ.inj h2) fun j=>h3 (j+1))
theorem EV.aaS(e:EV cx I σ st s Q (.loc st.length,st++[ao]))(H:au cx k A I σ st s)(kp:∀b o,s.heap.get? b=some o→s'.heap.get? b=some o)(g:s'.heap.get? s.heap.objs.size=some o)(sm:bw s s')
  (r:dw I cx.P (gj σ st.length s.heap.objs.size) (st.length+1) ao o):Q (.ref s.heap.objs.size) s':=
 e I _ _ s' (aM.Bm H.rel kp (dD _) g r) sm (by
  have:=aq.loc (I:=I) (P:=cx.P) (σ:=gj σ st.length s.heap.objs.size) (n₀:=(st++[ao]).length) st.length (by simp);rw[eG]at this;exact this)
theorem Jd{y:Value}{fs:List (Str×V)}(H:au cx k A I σ st s)(hv:aq I cx.P σ st.length v y)(e:oB st v=some fs)(g:Good cx.S cx.pre (Cy st fs) (EV cx I σ st s Q)):wpAny cx.M A (call (.type "list") [y]) Q E s:=by
 obtain⟨Cz,hl,g⟩:=bA g;obtain⟨a,es,ep,rfl,ga,rr,rL⟩:=xG H.rel hv e;obtain⟨kvs,hp,hk⟩:=Mb cx.w rfl cx.prog rr;have e2:kvs.length=fs.length:=(List.length_map ..).symm.trans ((congrArg List.length hk).trans (List.length_map ..));have nd:(kvs.map (·.1)).Nodup:=hk▸Et fs▸sJ Cz;refine kdl_call (kdl_dict (knd:=strKind cx.prog cx.w) (kvs:=kvs) (ep:=ep) (rL H.base)) H.fit.handled ⟨_,es.toArray,ga,⟨rfl,rfl,rfl⟩,rfl,pZ cx.w rfl cx.prog rr,hp,nd⟩ (by rw[sizeLine_eq];lia) fun h' tk aaT c' kp gn ha=> ?_;have rl:aG I cx.P σ st.length (Ds fs) aaT.toList:=Ph (K:=fun k v=>(strKind cx.prog cx.w).is k v=true) (fun x v=>Value.isStrOf_shape) hk ((Array.length_toList ..).trans ha.1) fun j v hv=>ha.2 j v (by rw[←Array.getElem?_toList];exact hv);exact EV.aaS g H kp gn ⟨rfl,rfl,rfl⟩ (dw.list (pre:=[]) c' (qm _) (rl.mono (D7 σ st I s.heap.objs.size)))
theorem Pj(H:au cx k A I σ st s)(r:aG I cx.P σ st.length args ys)(g:Good cx.S cx.pre (Hi t args st) (EV cx I σ st s Q)):wpAny cx.M A (call (.type t.id) ys) Q E s:=by
 induction t using TY.casesOn with
 |list=>
  refine aN g fun v hv g=> ?_;rw[TM hv]at g r;induction q:oB st v using qe with
  |none=>rw[q]at g;exact G5 (t:=.list) H r g
  |some fs=>
   rw[q]at g;obtain⟨y1,rfl,h1⟩:=r.inv1;exact Jd H h1 q g
 |_=>exact G5 H r g
theorem Gz(h:zN x y):fV ev j y [] fr args st=fV ev j x [] fr args st:=by
 obtain⟨f1,f2,f3,_⟩:=h;unfold fV xO uV;rw[f1,f2,f3]
theorem Je(K:Kept cx)(S:aU cx ev)(H:au cx (k+1) A I σ st s)(r:aG I cx.P σ st.length args ys)(g:Good cx.S cx.pre (BB cx ev k a args st) (EV cx I σ st s Q)):wpAny cx.M A (call (.ref a) ys) Q E s:=by
 rw[BB]at g;induction ha:nH a cx.tab.asks using qd with
 |true=>rw[ha]at g;exact(by obtain⟨W,g1,g2⟩:=g;exact K ha H r g1 g2)
 |false=>
  rw[ha]at g;induction e:n6 a cx.tab.fns using qe with
  |some fd=>rw[e]at g;exact wpAny_call (Er S e H r (fun v s' q=>q) g)
  |none=>
   rw[e]at g;induction k using qk with
   |zero=>exact g.elim
   |succ k=>exact aN g fun fi hm g=>aN g fun fd e g=>TP S hm e H r g
theorem Pk(K:Kept cx)(S:aU cx ev)(H:au cx k A I σ st s)(rf:aq I cx.P σ st.length f y)(r:aG I cx.P σ st.length args ys)
  (g:Good cx.S cx.pre (RG cx ev k f args st) (EV cx I σ st s Q)):wpAny cx.M A (call y ys) Q E s:=by
 replace rf:=rf.inv;induction f using V.casesOn with
 |bi b=>subst rf;exact Tn H r g
 |ty t=>subst rf;exact Pj H r g
 |top a=>
  subst rf;induction k using qk with
  |zero=>exact g.elim
  |succ k=>exact Je K S H r g
 |jw fd free=>
  induction k using qk with
  |zero=>exact g.elim
  |succ k=>
   induction rf using rC.casesOn with
   |mk h hc hd hf Cm DO DP hq rc=>
    have g:Good cx.S cx.pre (fV ev k fd [] free args st) _:=g;rw[←Gz hf]at g;exact wpAny_call (RE S H ⟨⟨_,h,hd⟩,⟨_,_,_,_,Cm,DO,DP,hq⟩,hf.2.2.2.1,hf.2.2.2.2.1,rc,.inl ⟨hf.2.2.2.2.2.1,rfl⟩⟩ r (fun v s' q=>q) g)
 |_=>exact g.elim
end
noncomputable def oF(cx:Cx)(f:V):Bool:=match f with
 |.bi _=>true
 |.ty _=>true
 |.top a=>nH a cx.tab.T.keeps
 |.jw _ _=>true
 |_=>false
noncomputable def g8:List Expr→Bool
 |[]=>true
 |e::r=>eV (ud e) (g8 r)
noncomputable def BC(cx:Cx)(ev:Ev)(k:Nat)(fe:FE)(m:ai)(st:St)(func:Expr)(args:List Expr):aA (V×St):=dR (g8 args) ((ev.e k fe m st func).bind fun p=>dR (oF cx p.1) ((wj ev k fe m args p.2).bind fun q=>ev.c k p.1 q.1 q.2))
noncomputable def Hj(cx:Cx)(ev:Ev)(k:Nat)(fe:FE)(m:ai)(st:St)(o:Expr)(name:Str)(jy pos:Pos)(args:List Expr):aA (V×St):=dR (g8 args) (dR (ue o) (dR (Nat.beq jy.endLine pos.line) (dR (Nat.blt (len args) 20)
 ((ev.e k fe m st o).bind fun p=>cz (oA cx p.2 p.1 name) fun f=>dR (oF cx f.1) ((wj ev k fe m args p.2).bind fun q=>ev.c k f.1 (f.2++q.1) q.2)))))
noncomputable def Mc(cx:Cx)(ev:Ev)(k:Nat)(fe:FE)(m:ai)(st:St)(func:Expr)(args:List Expr)(V5:List Keyword)(pos:Pos):aA (V×St):=dR (eu V5) (match func with
 |.Attribute o name jy=>Hj cx ev k fe m st o name jy pos args
 |.Name a b=>BC cx ev k fe m st (.Name a b) args
 |.Subscript a b c=>BC cx ev k fe m st (.Subscript a b c) args
 |_=>.bad)
section
variable{st:St}
theorem oQ(h:g8 es=true):(backTo pos (starEach es env)).any (·.1)=false:=by
 induction es with
 |nil=>rfl
 |cons e es ih=>rw[eW es env (bk h).1];exact ih (bk h).2
theorem yE(h:g8 es=true):(backTo pos (starEach es env)).all (fun x=> !x.1)=true:=by
 induction es with
 |nil=>rfl
 |cons e es ih=>rw[eW es env (bk h).1];exact ih (bk h).2
theorem Eu(h:g8 es=true):backTo pos (starEach es env)=[]∨∃x r,backTo pos (starEach es env)=(false,x)::r:=by
 induction es using qh with
 |nil=>exact .inl rfl
 |cons e es=>rw[eW es env (bk h).1];exact .inr ⟨_,_,rfl⟩
theorem oR(hp:g8 es=true)(h:wpAny M A (spliced (backTo pos (starEach es env))) (fun vs s'=>R ⟨vs,[]⟩ s') E s):
  wpAny M A (evalArgs f true (backTo pos (starEach es env)) []) R E s:=by
 rcases Eu (env:=env) (pos:=pos) hp with q|⟨x,r,q⟩
 ·rw[q]at h⊢;unfold evalArgs;show wpAny M A (spliced []>>=_) R E s;refine wpAny_bind (wpAny_mono h (fun vs s' h'=> ?_) fun _ _ x=>x);refine wpAny_holding ?_;exact wpAny_bind (wpAny_pure (wpAny_bind (wpAny_pure (wpAny_pure h'))))
 ·rw[q]at h⊢;exact evalArgs_plain h
theorem Me(B:iI cx I)(hc:oF cx f=true)(rf:aq I cx.P σ n f y)(hi:∀b o,I b=some o→h.get? b=some o):∃kk,(kk=Keeper.frame∨kk=Keeper.machine∨kk=Keeper.boundFrame)∧Looks cx.M h (keeperOf y) kk:=by
 replace rf:=rf.inv;induction f using V.casesOn with
 |bi=>subst rf;exact⟨.machine,.inr (.inl rfl),Looks.of_pure rfl⟩
 |ty=>subst rf;exact⟨.machine,.inr (.inl rfl),Looks.of_pure rfl⟩
 |top a=>subst rf;exact keeps_K (List.all_eq_true.mp B.tabs.keeps _ (uQ hc)) h (B.zO hi)
 |jw=>induction rf using rC.casesOn with|mk h1 wz hd=>exact⟨.frame,.inl rfl,(Looks.ld (part:=none) (hi _ _ h1)).andThen (hd.symm▸.now)⟩
 |_=>exact ft hc
theorem yF(S:aU cx ev)(hp:g8 es=true)(H:au cx k A I σ st s)(l:av cx.P fe m env I σ st.length s.heap)
  (rf:aq I cx.P σ st.length f y)(ru:aG I cx.P σ st.length us zs)(g:Good cx.S cx.pre (dR (oF cx f) ((wj ev k fe m es st).bind fun q=>ev.c k f (us++q.1) q.2)) (EV cx I σ st s Q)):
  wpAny cx.M A (callWith pos y zs (backTo pos (starEach es env)) []) Q E s:=by
 obtain⟨hc,g⟩:=bA g;refine callWith_of (P:=fun h=>∀b o,I b=some o→h.get? b=some o) (by rw[oQ hp];rfl) (fun h=>Me H.base hc rf) ?_;exact oR hp (Dr S H l g fun bG aZ aX s₁ vs ys aV aO aY bD b9 aQ=>⟨fun b o e=>aY.rel.sub _ _ (aV.le.i _ _ e),S.c aY (rf.mono aV.le) ((ru.mono aV.le).append b9) (Good.mono (fun v gv=>EV.into gv aV aO) aQ)⟩)
theorem Ew(S:aU cx ev)(he:eval (.Call func args [] pos) env=(do callWith pos (←eval func env) [] (backTo pos (starEach args env)) (backToKw pos (keywordEach [] env))))
  (H:au cx k A I σ st s)(l:av cx.P fe m env I σ st.length s.heap)(g:Good cx.S cx.pre (BC cx ev k fe m st func args) (EV cx I σ st s Q)):wpAny cx.M A (eval (.Call func args [] pos) env) Q E s:=by
 obtain⟨hp,g⟩:=bA g;exact Call_ (S.ee H l g fun bG aZ aX s₁ ji iX aV aO aY bD b9 aQ=>yF S (us:=[]) hp aY bD b9 .nil (Good.mono (fun v gv=>EV.into gv aV aO) aQ)) he
theorem GA(hp:g8 args=true)(hl:Nat.blt (len args) 20=true):methodCallForm (args.length+([]:List Keyword).length) (backTo pos (starEach args env)) (backToKw pos (keywordEach [] env))=true:=by
 have:=lJ hl;rw[methodCallForm,yE hp];show(true&&true&&decide (args.length+0+0<30))=true;rw[decide_eq_true (by exact vV ‹_›)];rfl
theorem Jf(hl:Nat.beq jy.endLine pos.line=true):methodCallPos true o env jy pos=pure pos:=by
 unfold methodCallPos;rw[qt hl];simp
theorem Pn(S:aU cx ev)(H:au cx k A I σ st s)(l:av cx.P fe m env I σ st.length s.heap)(g:Good cx.S cx.pre (Hj cx ev k fe m st o name jy pos args) (EV cx I σ st s Q)):
  wpAny cx.M A (eval (.Call (.Attribute o name jy) args [] pos) env) Q E s:=by
 obtain⟨hp,g⟩:=bA g;obtain⟨hn,g⟩:=bA g;obtain⟨hl,g⟩:=bA g;obtain⟨kX,g⟩:=bA g;rw[arm_eval_Call,p6 hn];refine wpAny_bind (S.ee H l g fun bG aZ aX s₁ ji iX aV aO aY bD b9 aQ=>wpAny_bind (wpAny_standAt (aN aQ fun f hf aQ=> ?_)));rw[methodCall,GA hp kX];exact wpAny_bind (wpAny_holding (zc aY b9 hf fun z zs rz Ex t=>wpAny_bind (wpAny_of_eq (Jf hl)
  (yF S (s:={s₁ with toks:=t}) hp ⟨aY.fit,aY.base,aY.rel⟩ bD rz Ex (Good.mono (fun v gv=>EV.into (s':={s₁ with toks:=t}) gv aV aO) aQ)))))
theorem TQ(S:aU cx ev)(H:au cx k A I σ st s)(l:av cx.P fe m env I σ st.length s.heap)(g:Good cx.S cx.pre (Mc cx ev k fe m st func args V5 pos) (EV cx I σ st s Q)):
  wpAny cx.M A (eval (.Call func args V5 pos) env) Q E s:=by
 obtain⟨h0,g⟩:=bA g;obtain rfl:=cI h0;induction func using PySem.Expr.casesOn with
 |Attribute=>exact Pn S H l g
 |Name=>exact Ew S rfl H l g
 |Subscript=>exact Ew S rfl H l g
 |_=>exact g.elim
end
noncomputable def nJ{α:Type}(t:Sem α):Option α:=match t with
 |.pure a=>some a
 |_=>none
theorem kY{α:Type}{t:Sem α}{a:α}(h:nJ t=some a):t=pure a:=by
 induction t using PySem.Sem.casesOn with
 |pure x=>exact congrArg Sem.pure (qc h)
 |_=>exact nn h
noncomputable def iJ(sc:Scope):Env:=newEnv sc 0 0 [] "" none .none none 0
section
variable{st:St}
theorem Af(l:av P fe m env I σ n h):swappedStores ts v env=swappedStores ts v (iJ fe.scope):=by
 rw[←l.scope];rfl
theorem rP(l:av P fe m env I σ n h):swapsWithSole ts v j env=swapsWithSole ts v j (iJ fe.scope):=by
 rw[←l.scope];rcases ts with _|⟨t,_|⟨u,r⟩⟩<;>rfl
theorem Ey(l:av P fe m env I σ n h):swapsWith v t j env=swapsWith v t j (iJ fe.scope):=by
 rw[←l.scope];rfl
noncomputable def pn(cs:Str→Bool):List Str→List V→ai→Option ai
 |[],vs,m=>fH (eu vs) (some m)
 |n::ns,vs,m=>cD (OQ vs) fun p=>fH (cs n) (pn cs ns p.2 (put n p.1 m))
noncomputable abbrev Ez(fe:FE):List Str→List V→ai→Option ai:=pn (rJ fe)
def Stores(cx:Cx)(k:Nat)(A:Around)(I:IM)(σ:Nat→Addr)(st:St)(E:dU)(fe:FE)(env:Env)(cs:Str→Bool)(X:Addr→Prop):Prop:=
 ∀{x:Str} {v:V} {y:Value} {m:ai} {s:Shared} {Q:Unit→SP},au cx k A I σ st s→av cx.P fe m env I σ st.length s.heap→cs x=true→aq I cx.P σ st.length v y→
  (∀s',aM cx.P X I σ st.length s.heap I σ st s'.heap→bw s s'→av cx.P fe (put x v m) env I σ st.length s'.heap→Q () s')→wpAny cx.M A (storeName env x y) Q E s
variable{X:Addr→Prop}
theorem wA(sn:Stores cx k A I σ st E fe env cs X){as:List (Str×(Value→Sem Unit))}:∀{vs:List V} {ys:List Value} {m m':ai} {s:Shared} {Q:Unit→Shared→Prop},
  (∀p∈as,∀y {s:Shared} {R:Unit→Shared→Prop},wpAny cx.M A (storeName env p.1 y) R E s→wpAny cx.M A (p.2 y) R E s)→
  au cx k A I σ st s→av cx.P fe m env I σ st.length s.heap→aG I cx.P σ st.length vs ys→pn cs (as.map (·.1)) vs m=some m'→
  (∀s',aM cx.P X I σ st.length s.heap I σ st s'.heap→bw s s'→av cx.P fe m' env I σ st.length s'.heap→Q () s')→wpAny cx.M A (assignInOrder (as.map (·.2)) ys) Q E s:=by
 induction as with
 |nil=>
  intro vs ys m m' s Q _ H l r e h;rw[cI (cQ e)]at r;replace r:=r.inv;subst r;exact wpAny_assignInOrder_none (h s (aM.refl H.rel) (bw.refl s) (qc (cW e)▸l))
 |cons a as ih=>
  intro vs ys m m' s Q hf H l r e h;refine aK e fun p hp e=> ?_;rw[Br hp]at r;replace r:=r.inv;induction r using dP.casesOn with
  |mk hv r=>exact wpAny_assignInOrder_more (hf a (qi) _ (sn H l (cQ e) hv fun s₁ aV aO bD=>ih (fun p hp=>hf p (qj _ hp)) (H.go aV) bD r (cW e) fun br bQ cK dX=>h br (aV.trans bQ) (aO.trans cK) dX))
theorem GB{ns:List Str}{vs:List V}{ys:List Value}
  (hf:∀n y {s:Shared} {R:Unit→Shared→Prop},wpAny cx.M A (storeName env n y) R E s→wpAny cx.M A (f n y) R E s)
  (H:au cx k A I σ st s)(l:av cx.P fe m env I σ st.length s.heap)(r:aG I cx.P σ st.length vs ys)(e:Ez fe ns vs m=some m')
  (h:∀s',aM cx.P (aF env) I σ st.length s.heap I σ st s'.heap→bw s s'→av cx.P fe m' env I σ st.length s'.heap→Q () s'):wpAny cx.M A (assignInOrder (ns.map f) ys) Q E s:=by
 have:=wA (X:=aF env) (fun H l e r h=>pY H l e r h) (as:=ns.map fun n=>(n,f n)) (Q:=Q) (E:=E) (A:=A) (env:=env) (fun p hp y {s R} w=>by obtain⟨n,_,rfl⟩:=List.mem_map.mp hp;exact hf n y w) H l r (by rw[List.map_map];exact(List.map_id' ns).symm▸e) h
 rwa [List.map_map]at this
noncomputable def Ag(e:Expr):Option Str:=match e with
 |.Name x _=>some x
 |_=>none
theorem CB(h:Ag e=some x):∃p,e=.Name x p:=by
 induction e using PySem.Expr.casesOn with
 |Name y p=>exact⟨p,qc h▸rfl⟩
 |_=>exact nn h
noncomputable def zo:List Expr→Option (List Str)
 |[]=>some []
 |e::r=>cD (Ag e) fun x=>cD (zo r) fun l=>some (x::l)
theorem zp:∀{ns:List Str},zo es=some ns→∃ps:List Pos,ps.length=ns.length∧(assignEach es env).length=ns.length∧(assignEach es env).findIdx? (·.1)=none∧
  (assignEach es env).map (·.2)=(ns.zip ps).map (fun q=>assign (.Name q.1 q.2) env):=by
 induction es with
 |nil=>intro ns e;cases qc e;exact⟨[],rfl,rfl,rfl,rfl⟩
 |cons e es ih=>
  intro ns h;refine aK h fun x hx g=>aK g fun l hl g=> ?_;obtain⟨ps,h1,h2,h3,h4⟩:=ih hl;obtain⟨p,rfl⟩:=CB hx;rw[←qc g];refine⟨p::ps,congrArg Nat.succ h1,congrArg Nat.succ h2, ?_,congrArg (assign (.Name x p) env::·) h4⟩;show((false,assign (.Name x p) env)::assignEach es env).findIdx? (·.1)=none;rw[List.findIdx?_cons];simp[h3]
noncomputable def uW(cs:Str→Bool)(t:Expr)(v:V)(m:ai):Option ai:=match t with
 |.Name x _=>fH (cs x) (some (put x v m))
 |.Tuple ts _ _=>cD (zo ts) fun ns=>cD (Dq v) fun vs=>pn cs ns vs m
 |_=>none
noncomputable abbrev iE(fe:FE):Expr→V→ai→Option ai:=uW (rJ fe)
theorem wB{ns:List Str}:∀{vs:List V} {m m':ai},pn cs ns vs m=some m'→ns.length=vs.length:=by
 induction ns with
 |nil=>intro vs m m' e;rw[cI (cQ e)];rfl
 |cons n ns ih=>intro vs m m' e;exact aK e fun p hp e=>by rw[Br hp];exact congrArg Nat.succ (ih (cW e))
theorem Ah(sn:Stores cx k A I σ st E fe env cs X){y:Value}{m':ai}{Q:Unit→Shared→Prop}(H:au cx k A I σ st s)(l:av cx.P fe m env I σ st.length s.heap)(hv:aq I cx.P σ st.length v y)(e:uW cs t v m=some m')
  (h:∀s',aM cx.P X I σ st.length s.heap I σ st s'.heap→bw s s'→av cx.P fe m' env I σ st.length s'.heap→Q () s'):wpAny cx.M A (assign t env y) Q E s:=by
 induction t using PySem.Expr.casesOn with
 |Name x p=>exact wpAny_assign_Name (sn H l (cQ e) hv (qc (cW e)▸h))
 |Tuple ts c p=>
  refine aK e fun ns um e=>aK e fun vs LO e=> ?_;have q:=Ec hv LO;clear hv;induction q using iV.casesOn with
  |mk g r=>
   rename_i a n xs
   obtain⟨ps,h1,h2,h3,h5⟩:=zp (env:=env) um;refine wpAny_assign_Tuple (items:=xs.toArray) H.fit.handled ⟨_,H.rel.sub _ _ g,rfl,n,rfl⟩ (by rw[h2,wB e,List.size_toArray,r.length]) h3 fun h' hx=> ?_;have ex:=aM.grow H.rel (h':=h') fun b o e=>hx b o (Nat.ne_of_lt (Heap.lt_size e)) e;have H':au cx k A I σ st {s with heap:=h'}:=H.go (s':={s with heap:=h'}) ex;have en:((ns.zip ps).map fun q=>(q.1,assign (.Name q.1 q.2) env)).map (·.1)=ns:=by rw[List.map_map];exact List.map_fst_zip (qH h1.symm)
   have:=wA sn (as:=(ns.zip ps).map fun q=>(q.1,assign (.Name q.1 q.2) env)) (Q:=Q) (s:={s with heap:=h'}) (fun p hp y {s R} w=>by obtain⟨q,_,rfl⟩:=List.mem_map.mp hp;exact wpAny_assign_Name w) H' (l.ext ex) r (en.symm▸e) fun br bQ cK dX=>h br ((ex.weaken fun _ q=>q.elim).trans bQ) cK dX;rw[h5]
   rwa [List.map_map]at this
 |_=>exact nn e
theorem pA(H:au cx k A I σ st s)(l:av cx.P fe m env I σ st.length s.heap)(hv:aq I cx.P σ st.length v y)(e:iE fe t v m=some m')
  (h:∀s',aM cx.P (aF env) I σ st.length s.heap I σ st s'.heap→bw s s'→av cx.P fe m' env I σ st.length s'.heap→Q () s'):wpAny cx.M A (assign t env y) Q E s:=Ah (fun H l e r h=>pY H l e r h) H l hv e h
end
noncomputable abbrev ig:=aA ((Out×ai)×St)
noncomputable def rQ(o:Option Bool):Bool:=match o with
 |some b=>i7 b
 |none=>false
theorem p8(h:rQ o=true):o=some false:=by
 induction o using qe with
 |none=>exact ft h
 |some b=>induction b using qd with
  |true=>exact ft h
  |false=>rfl
noncomputable def Jg{α:Type}:List α→List α→List α
 |[],acc=>acc
 |x::l,acc=>Jg l (x::acc)
theorem Hl{α:Type}(l:List α):∀acc:List α,Jg l acc=l.reverse++acc:=by
 induction l with
 |nil=>exact fun _=>rfl
 |cons x l ih=>exact fun acc=>(ih _).trans (by rw[List.reverse_cons,List.append_assoc];rfl)
noncomputable def Mf(ev:Ev)(k:Nat)(fe:FE)(m:ai)(st:St)(e:Expr)(pos:Pos):ig:=dR (rQ (nJ (swapsWith e none pos.line (iJ fe.scope)))) ((ev.e k fe m st e).bind fun p=>.ok ((.next,m),p.2))
noncomputable def RH(ev:Ev)(k:Nat)(fe:FE)(m:ai)(st:St)(e:Option Expr):ig:=match e with
 |some e=>(ev.e k fe m st e).bind fun p=>.ok ((.ret p.1,m),p.2)
 |none=>.ok ((.ret .none,m),st)
noncomputable def V6(ev:Ev)(k:Nat)(fe:FE)(m:ai)(st:St)(t:Expr)(a b:List Stmt):ig:=
 (ev.t k fe m st t).bind fun p=>match p.1 with
  |true=>ev.b k fe m p.2 a
  |false=>ev.b k fe m p.2 b
noncomputable def xP(cx:Cx)(ev:Ev)(k:Nat)(fe:FE)(m:ai)(st:St)(t:Expr)(v:V):ig:=match t with
 |.Name a b=>cz (iE fe (.Name a b) v m) fun m'=>.ok ((.next,m'),st)
 |.Tuple a b c=>cz (iE fe (.Tuple a b c) v m) fun m'=>.ok ((.next,m'),st)
 |.Attribute o a _=>(ev.e k fe m st o).bind fun p=>cz (zd cx p.2 p.1 a v) fun st'=>.ok ((.next,m),st')
 |.Subscript o i _=>(ev.e k fe m st o).bind fun p=>(ev.e k fe m p.2 i).bind fun q=>cz (D4 q.2 p.1 q.1 v) fun st'=>.ok ((.next,m),st')
 |_=>.bad
noncomputable def EA(fe:FE)(m:ai)(ns:List Str)(v:V)(st:St):ig:=cz (Dq v) fun vs=>cz (Ez fe (Jg ns []) (Jg vs []) m) fun m'=>.ok ((.next,m'),st)
noncomputable def zq(cx:Cx)(ev:Ev)(k:Nat)(fe:FE)(m:ai)(st:St)(ts:List Expr)(v:Expr)(pos:Pos):ig:=cz (a1 ts) fun t=>dR (rQ (nJ (swapsWithSole [t] v pos.line (iJ fe.scope)))) (cz (nJ (swappedStores [t] v (iJ fe.scope))) fun o=>
 (ev.e k fe m st v).bind fun p=>match o with
  |none=>xP cx ev k fe m p.2 t p.1
  |some ns=>EA fe m ns p.1 p.2)
noncomputable def Y9(op:Operator)(a b:V):Option V:=match op with
 |.Add=>cD (Cr a) fun p=>cD (Cr b) fun q=>some (zY (Cs p.1 q.1) (p.2+q.2))
 |_=>none
noncomputable def RI(cx:Cx)(ev:Ev)(k:Nat)(fe:FE)(m:ai)(st:St)(t:Expr)(op:Operator)(v:Expr):ig:=match t with
 |.Attribute o a _=>(ev.e k fe m st o).bind fun p=>cz (y9 cx p.2 p.1 a) fun CC=>(ev.e k fe m p.2 v).bind fun q=>cz (Y9 op CC q.1) fun r=>cz (zd cx q.2 p.1 a r) fun st'=>.ok ((.next,m),st')
 |_=>.bad
section
variable{cx:Cx}{st:St}{s:Shared}
theorem EO.here(g:EO cx fe env I σ st s Q ((o,m'),st'))(x:aM cx.P (fun _=>False) I σ st.length s.heap I' af st' s'.heap)(sm:bw s s')
  (ro:rM I' cx.P af st'.length o f)(l:av cx.P fe m' env I' af st'.length s'.heap):Q f s':=g I' af f s' (x.weaken fun _ q=>q.elim) sm ⟨ro,l⟩
theorem EO.into(g:EO cx fe env I σ st s Q p)(x:aM cx.P (fun _=>False) I σ st.length s.heap I' af st' s'.heap)(sm:bw s s'):EO cx fe env I' af st' s' Q p:=
 Ends.into g (x.weaken fun _ q=>q.elim) sm
theorem EO.Za(g:EO cx fe env I σ st s Q p)(x:aM cx.P (aF env) I σ st.length s.heap I' af st' s'.heap)(sm:bw s s'):EO cx fe env I' af st' s' Q p:=
 Ends.into g x sm
theorem Ho(l:av cx.P fe m env I σ st.length s.heap):interactive env=false:=by
 unfold interactive;rw[l.scope,l.kind];rfl
theorem TR(S:aU cx ev)(H:au cx k A I σ st s)(l:av cx.P fe m env I σ st.length s.heap)(g:Good cx.S cx.pre (Mf ev k fe m st e pos) (EO cx fe env I σ st s Q)):
  wpAny cx.M A (exec (.Expr e pos) env) Q E s:=by
 obtain⟨hs,g⟩:=bA g;refine wpAny_Expr_any (S.ee H l g fun bG aZ aX s₁ ji iX aV aO aY bD b9 aQ=>EO.here aQ aV aO .next bD) (Ho l) ?_;rw[Ey l];exact kY (p8 hs)
theorem V7(S:aU cx ev)(H:au cx k A I σ st s)(l:av cx.P fe m env I σ st.length s.heap)(g:Good cx.S cx.pre (RH ev k fe m st e) (EO cx fe env I σ st s Q)):
  wpAny cx.M A (exec (.Return e pos) env) Q E s:=by
 induction e using qe with
 |some e=>exact wpAny_Return_some (S.ee H l g fun bG aZ aX s₁ ji iX aV aO aY bD b9 aQ=>EO.here aQ aV aO (.ret b9) bD)
 |none=>exact wpAny_Return_none (EO.here g (aM.refl H.rel) (bw.refl s) (.ret .none) l)
theorem Zb(S:aU cx ev)(H:au cx k A I σ st s)(l:av cx.P fe m env I σ st.length s.heap)(g:Good cx.S cx.pre (V6 ev k fe m st t a b) (EO cx fe env I σ st s Q)):
  wpAny cx.M A (exec (.If t a b pos) env) Q E s:=by
 refine wpAny_If (S.tt H l g fun bG aZ aX s₁ c aV aO aY bD aQ=> ?_);induction c using qd with
 |true=>exact S.b aY bD (Good.mono (fun p gp=>EO.into gp aV aO) aQ)
 |false=>exact S.b aY bD (Good.mono (fun p gp=>EO.into gp aV aO) aQ)
set_option backward.match.sparseCases true in
theorem Jh(o i:Expr)(pos:Pos)(env:Env)(y:Value):∃rl:Value→Value→List Value,assign (.Subscript o i pos) env y=(do
   let ov ←holding [y] (eval o env)
   let iv ←holding [y,ov] (eval i env)
   standAt pos
   holding [y,ov,iv] (setItem ov iv y)
   release (rl ov iv) []):=⟨fun ov iv=>match i with|.Slice _ _ none _=>[iv,y,ov]|_=>[y,ov,iv],rfl⟩
theorem Mg(S:aU cx ev)(H:au cx k A I σ st s)(l:av cx.P fe m env I σ st.length s.heap)(hv:aq I cx.P σ st.length v y)(g:Good cx.S cx.pre (xP cx ev k fe m st t v) (EO cx fe env I σ st s Q)):
  wpAny cx.M A (assign t env y) (fun _=>Q .next) E s:=by
 induction t using PySem.Expr.casesOn with
 |Name=>exact aN g fun m' e g=>pA H l hv e fun s' x sm l'=>g I σ _ s' x sm ⟨.next,l'⟩
 |Tuple=>exact aN g fun m' e g=>pA H l hv e fun s' x sm l'=>g I σ _ s' x sm ⟨.next,l'⟩
 |Attribute o a pos=>
  rw[show assign (.Attribute o a pos) env y=(do
   let ov ←holding [y] (eval o env)
   standAt pos.atName
   holding [y,ov] (setAttr ov a y)
   release [y,ov] [])from rfl]
  refine wpAny_bind (wpAny_holding (S.ee H l g fun bG aZ aX s₁ ji iX aV aO aY bD b9 aQ=>wpAny_bind (wpAny_standAt (wpAny_bind (wpAny_holding ?_)))));exact aN aQ fun st' yz aQ=>DV aY b9 (hv.mono aV.le) yz fun br bQ cK _=>wpAny_release (EO.here aQ (aV.trans bQ) (aO.trans cK) .next (bD.ext bQ))
 |Subscript o i pos=>
  obtain⟨rl,e⟩:=Jh o i pos env y;rw[e];refine wpAny_bind (wpAny_holding (S.ee H l g fun bG aZ aX s₁ ji iX aV aO aY bD b9 aQ=>wpAny_bind (wpAny_holding (S.ee aY bD aQ fun dj bH bW br Eh Ei bQ cK cP dX jO fL=>wpAny_bind (wpAny_standAt (wpAny_bind (wpAny_holding ?_)))))));exact aN fL fun st' yz fL=>OU cP (b9.mono bQ.le) jO ((hv.mono aV.le).mono bQ.le) yz fun jP jk p9=>wpAny_release (EO.here fL ((aV.trans bQ).trans jk) ((aO.trans cK).trans p9) .next (dX.ext jk))
 |_=>exact g.elim
theorem aG.reverse:∀{xs:LV},aG I P σ n vs xs→aG I P σ n vs.reverse xs.reverse:=by
 induction vs with
 |nil=>intro xs h;replace h:=h.inv;subst h;exact .nil
 |cons a vs ih=>
  intro xs h;replace h:=h.inv;induction h using dP.casesOn with|mk h r=>rw[List.reverse_cons,List.reverse_cons];exact(ih r).append (.cons h .nil)
theorem GC{ns:List Str}(H:au cx k A I σ st s)(l:av cx.P fe m env I σ st.length s.heap)(r:aq I cx.P σ st.length v y)(g:Good cx.S cx.pre (EA fe m ns v st) (EO cx fe env I σ st s Q)):
  wpAny cx.M A (do
   rule "assign.swapped-stores"
   let items ←unpackItems y ns.length none
   assignInOrder (ns.reverse.map fun n=>bindName env n) items.reverse
   pure .next) Q E s:=by
 refine aN g fun vs LO g=>aN g fun m' hm g=> ?_;replace r:=Ec r LO;induction r using iV.casesOn with
 |mk gg rr=>
  rename_i a n xs
  have hl:=wB hm;rw[Hl,Hl,List.append_nil,List.append_nil]at hm hl;rw[List.length_reverse,List.length_reverse,←rr.length]at hl;rw[hl.trans List.size_toArray.symm];refine wpAny_bind (wpAny_rule (wpAny_bind (wpAny_unpackItems_tuple (items:=xs.toArray) H.fit.handled ⟨_,H.rel.sub _ _ gg,rfl,n,rfl⟩ fun h' hx=>wpAny_bind ?_)));have ex:=aM.grow H.rel (h':=h') fun b o e=>hx b o (Nat.ne_of_lt (Heap.lt_size e)) e;exact GB (f:=fun n=>bindName env n) (fun n y _ _ hh=>wpAny_bindName hh) (H.go (s':={s with heap:=h'}) ex) (l.ext ex) (by simpa using rr.reverse) hm fun br bQ cK dX=>wpAny_pure (g I σ _ br ((ex.weaken (fun _ q=>q.elim)).trans bQ) cK ⟨.next,dX⟩)
theorem BD(h:∀e a,t≠.Starred e a):(assignEach [t] env).map (·.2)=[assign t env]:=by
 induction t using PySem.Expr.casesOn with
 |Starred e a=>exact absurd rfl (h e a)
 |_=>rfl
theorem EC(S:aU cx ev)(H:au cx k A I σ st s)(l:av cx.P fe m env I σ st.length s.heap)(hs:swapsWithSole [t] v pos.line env=pure false)(ho:swappedStores [t] v env=pure none)
  (g:Good cx.S cx.pre ((ev.e k fe m st v).bind fun p=>xP cx ev k fe m p.2 t p.1) (EO cx fe env I σ st s Q)):wpAny cx.M A (exec (.Assign [t] v pos) env) Q E s:=
 wpAny_Assign_stores (S.ee H l g fun bG aZ aX s₁ ji iX aV aO aY bD b9 aQ=>by
  rw[BD fun e a q=>by rw[q]at aQ;exact aQ];exact Mg S aY bD b9 (Good.mono (fun p gp=>EO.into gp aV aO) aQ)) hs ho
theorem GD{ns:List Str}{pos:Pos}(S:aU cx ev)(H:au cx k A I σ st s)(l:av cx.P fe m env I σ st.length s.heap)(hs:swapsWithSole [t] v pos.line env=pure false)(ho:swappedStores [t] v env=pure (some ns))
  (g:Good cx.S cx.pre ((ev.e k fe m st v).bind fun p=>EA fe m ns p.1 p.2) (EO cx fe env I σ st s Q)):wpAny cx.M A (exec (.Assign [t] v pos) env) Q E s:=by
 rw[exec_Assign_arm];refine wpAny_bind (wpAny_standAt ?_);rw[hs];refine wpAny_bind (wpAny_pure ?_);rw[if_neg qD];refine wpAny_bind (S.ee H l g fun bG aZ aX s₁ ji iX aV aO aY bD b9 aQ=> ?_);rw[ho];exact wpAny_bind (wpAny_pure (GC aY bD b9 (Good.mono (fun p gp=>EO.into gp aV aO) aQ)))
theorem CD{v:Expr}{pos:Pos}(S:aU cx ev)(H:au cx k A I σ st s)(l:av cx.P fe m env I σ st.length s.heap)(g:Good cx.S cx.pre (zq cx ev k fe m st ts v pos) (EO cx fe env I σ st s Q)):
  wpAny cx.M A (exec (.Assign ts v pos) env) Q E s:=by
 refine aN g fun t ht g=> ?_;obtain⟨hs,g⟩:=bA g;refine aN g fun o ho g=> ?_;have hs:=(rP l).trans (kY (p8 hs));have ho:=(Af l).trans (kY ho);rw[z6 ht];induction o using qe with
 |none=>exact EC S H l hs ho g
 |some ns=>exact GD S H l hs ho g
theorem V8(S:aU cx ev)(H:au cx k A I σ st s)(l:av cx.P fe m env I σ st.length s.heap)(g:Good cx.S cx.pre (RI cx ev k fe m st t op v) (EO cx fe env I σ st s Q)):
  wpAny cx.M A (exec (.AugAssign t op v pos) env) Q E s:=by
 induction t using PySem.Expr.casesOn with
 |Attribute o a=>
  refine wpAny_AugAssign_AttributeAny (S.ee H l g fun bG aZ aX s₁ ji iX aV aO aY bD b9 aQ=> ?_);refine aN aQ fun CC ho aQ=>DU aY b9 ho fun z rz=> ?_;have Zc:au cx k A bG aZ aX {s₁ with toks:=s₁.toks+1}:=⟨aY.fit,aY.base,aY.rel⟩;refine S.ee Zc bD aQ fun dj bH bW br Eh Ei bQ cK cP dX jO fL=>aN fL fun r hr ED=>aN ED fun st' yz EE=> ?_;induction op using PySem.Operator.casesOn with
  |Add=>
   refine aK hr fun p hp hr=>aK hr fun q hq hr=> ?_;rw[←qc hr]at yz;obtain⟨_,rfl⟩:=t9 rz hp;obtain⟨_,rfl⟩:=t9 jO hq;exact P.iadd_int (DV (s:={br with toks:=br.toks+1}) ⟨cP.fit,cP.base,cP.rel⟩ (b9.mono bQ.le) (m8 _ _ _) yz fun jP jk p9 _=>EO.here EE ((aV.trans bQ).trans jk) ((aO.trans cK).trans p9) .next (dX.ext jk))
  |_=>exact nn hr
 |_=>exact g.elim
end
noncomputable def RJ{α β:Type}(o:Option α)(f:α→β)(l:List β):List β:=match o with
 |some v=>f v::l
 |none=>l
noncomputable def gE:List Str→ai→ai
 |[],_=>[]
 |n::ns,m=>RJ (lk n m) (Prod.mk n) (gE ns m)
theorem CE{m:ai}{ns:List Str}{G:Prop}(e:lk x (gE (n::ns) m)=some v)(h1:x=n→lk n m=some v→G)(h2:lk x (gE ns m)=some v→G):G:=by
 have e:lk x (RJ (lk n m) (Prod.mk n) (gE ns m))=some v:=e;induction q:lk n m using qe with
 |none=>rw[q]at e;exact h2 e
 |some u=>rw[q]at e;exact jh (b:=seq x n) e (fun z e=>h1 (gz.mp z) (q.trans e)) fun _ e=>h2 e
theorem sL{m:ai}{ns:List Str}:lk x (gE ns m)=some v→lk x m=some v:=by
 induction ns with
 |nil=>exact nn
 |cons n ns ih=>exact fun e=>CE e (fun q e=>q▸e) ih
noncomputable def mq:ai→List Str
 |[]=>[]
 |p::m=>p.1::mq m
noncomputable def turned(names:List Str)(on:ai→St→ig)(p:(Out×ai)×St):ig:=match p.1.1 with
 |.next=>on (gE names p.1.2) p.2
 |.cont=>on (gE names p.1.2) p.2
 |.brk=>.ok ((.next,p.1.2),p.2)
 |.ret u=>.ok ((.ret u,p.1.2),p.2)
noncomputable def wC(ev:Ev)(k:Nat)(fe:FE)(names:List Str)(t:Expr)(body:List Stmt)(nx:Nat→St→Option (Option V)):Nat→Nat→ai→St→ig
 |0,_,_,_=>.bad
 |f+1,i,m,st=>cz (nx i st) fun o=>match o with
  |none=>.ok ((.next,m),st)
  |some v=>cz (iE fe t v m) fun m'=>(ev.b k fe m' st body).bind (turned names (wC ev k fe names t body nx f (Nat.succ i)))
noncomputable def EF(ev:Ev)(k:Nat)(fe:FE)(names:List Str)(t:Expr)(body:List Stmt):List V→ai→St→ig
 |[],m,st=>.ok ((.next,m),st)
 |v::vs,m,st=>cz (iE fe t v m) fun m'=>(ev.b k fe m' st body).bind (turned names (EF ev k fe names t body vs))
theorem TS:∀{pre:List V} {m:ai} {st:St},all=pre++rest→
  wC ev k fe names t body (fun i _=>some (di all i)) (rest.length+1) pre.length m st=EF ev k fe names t body rest m st:=by
 induction rest with
 |nil=>
  intro pre m st h;rw[wC.eq_2,gH,h,List.append_nil,List.getElem?_eq_none (qf _)];rfl
 |cons v vs ih=>
  intro pre m st h;rw[wC.eq_2,gH,h,qx (qf _),Nat.sub_self];refine congrArg (cz (iE fe t v m)) (funext fun m'=>congrArg (aA.bind _) (congrArg (turned names) (funext fun m=>funext fun st=> ?_)));have e:=ih (pre:=pre++[v]) (m:=m) (st:=st) (h.trans (List.append_assoc pre [v] vs).symm);rw[List.length_append,h]at e;exact e
noncomputable def forTurn(ev:Ev)(k:Nat)(fe:FE)(t:Expr)(body:List Stmt)(v:V)(m:ai)(st:St):ig:=cz (iE fe t v m) fun m'=>ev.b k fe m' st body
theorem CF:∀{m:ai} {st:St},
  Good S pre (uK (forTurn ev k fe t body) (gE names) vs m st) Q→Good S pre (EF ev k fe names t body vs m st) Q:=by
 induction vs with
 |nil=>exact fun g=>g
 |cons v vs ih=>
  intro m st g;have g:=Good.bind g;unfold forTurn at g;refine aN g fun m' e g=> ?_;show Good S pre (cz (iE fe t v m) _) Q;rw[e];refine m5.mpr (Good.mono (fun p hp=> ?_) g);obtain⟨⟨o,m₁⟩,aX⟩:=p;induction o using Out.casesOn with
  |next=>exact ih hp
  |cont=>exact ih hp
  |brk=>exact hp
  |ret u=>exact hp
def Apart(I:IM)(σ:Nat→Addr)(n:Nat)(b:Addr):Prop:=I b=none∧∀k,k<n→σ k≠b
section
variable{cx:Cx}{st:St}
theorem aM.apart(x:aM P X I σ n h I' af st' h')(hb:∃o,h.get? b=some o)(a:Apart I σ n b):Apart I' af st'.length b:=by
 obtain⟨o,ho⟩:=hb
 constructor
 ·induction q:I' b using qe with
  |none=>rfl
  |some o'=>
   rcases x.fresh b o' q with z|z
   ·rw[a.1]at z;exact nn z
   ·rw[z]at ho;exact nn ho
 ·intro j hj;by_cases q:j<n
  ·rw[x.le.s j q];exact a.2 j q
  ·intro z;have:=x.new j (qA q) hj;rw[z,ho]at this;exact ns this
theorem aM.last(x:aM P (fun b=>X b∨b=it) I σ n h I' af st' Po)(ex:∀b o,b≠it→Po.get? b=some o→h₂.get? b=some o)
  (dead:h.get? it=none)(a:Apart I' af st'.length it):aM P X I σ n h I' af st' h₂:=by
 have ne:∀b o,h.get? b=some o→b≠it:=fun b o e q=>by rw[q,dead]at e;exact nn e
 have ine:∀b o,I' b=some o→b≠it:=fun b o e q=>by rw[q,a.1]at e;exact nn e
 refine⟨x.le,x.fresh,x.new,⟨fun b o e=>ex b o (ine b o e) (x.rel.sub b o e),fun j o e=> ?_,x.rel.inj,x.rel.out⟩,fun b o e hx hk=>ex b o (ne b o e) (x.keep b o e (fun q=>q.elim hx (ne b o e)) hk),fun b o e=> ?_⟩
 ·obtain⟨ob,h1,h2⟩:=x.rel.cells j o e;exact⟨ob,ex _ _ (a.2 j (List.getElem?_eq_some_iff.mp e).1) h1,h2⟩
 ·obtain⟨o',h1⟩:=x.alive b o e;exact⟨o',ex _ _ (ne b o e) h1⟩
theorem av.Ji(l:av P fe m env I σ n h)(ex:∀b o,b≠it→h.get? b=some o→h'.get? b=some o)(hn:¬aF env it)(hc:∀v,¬h.IsCell it v):av P fe m env I σ n h':=by
 have own:∀b,aF env b→∀o,h.get? b=some o→h'.get? b=some o:=fun b ob o e=>ex b o (fun q=>hn (q▸ob)) e;refine⟨l.scope,l.kind,l.glob,l.blt, ?_,fun y v e hk=> ?_,fun y hk=> ?_,fun y v e hk=> ?_,l.apart,l.ne,l.inj⟩
 ·obtain⟨mm,⟨o,es,ep,ho,r⟩,h2⟩:=l.ns;exact⟨mm,⟨o,es,ep,own _ (.inl rfl) o ho,r⟩,h2⟩
 ·obtain⟨c,z,h1,h2,h3⟩:=l.cell y v e hk;exact⟨c,z,h1,f9 h2 (own c (.inr ⟨y,hk,h1⟩)),h3⟩
 ·obtain⟨c,z,h1,h2⟩:=l.there y hk;exact⟨c,z,h1,f9 h2 (own c (.inr ⟨y,hk,h1⟩))⟩
 ·obtain⟨c,z,h1,h2,h3,h4,h5⟩:=l.free y v e hk;exact⟨c,z,h1,f9 h2 fun o e=>ex c o (fun q=>hc _ (q▸h2)) e,h3,h4,h5⟩
theorem av.less(l:av P fe m env I σ n h)(hs:∀x v,lk x m'=some v→lk x m=some v):av P fe m' env I σ n h:=
 ⟨l.scope,l.kind,l.glob,l.blt,(by obtain⟨mm,h1,h2⟩:=l.ns;exact⟨mm,h1,fun x v e=>h2 x v (hs x v e)⟩),fun x v e=>l.cell x v (hs x v e),l.there,l.free,l.apart,l.ne,l.inj⟩
structure Walk (cx:Cx) (k:Nat) (A:Around) (it:Addr) (nx:Nat→St→Option (Option V)) (jn:Nat→Heap→Prop) (mV:IM) (jt:Nat→Addr) (n₀:Nat):Prop where
 item:∀{i:Nat} {v:V} {s:Shared} {I:IM} {σ:Nat→Addr} {st:St} {E:Value→Shared→Prop} {Q:Option Value→Shared→Prop},nx i st=some (some v)→au cx k A I σ st s→Le mV I jt σ n₀ st.length→jn i s.heap→
  (∀y h' t,aq I cx.P σ st.length v y→jn (i+1) h'→Heap.SameBut it s.heap h'→Q (some y) {s with heap:=h',toks:=t})→wpAny cx.M A (pyNext (.ref it)) Q E s
 done:∀{i:Nat} {s:Shared} {I:IM} {σ:Nat→Addr} {st:St} {E:Value→Shared→Prop} {Q:Option Value→Shared→Prop},nx i st=some none→au cx k A I σ st s→Le mV I jt σ n₀ st.length→jn i s.heap→
  (∀h',Heap.ExtBut it s.heap h'→Q none {s with heap:=h'})→wpAny cx.M A (pyNext (.ref it)) Q E s
 BE:∀{i:Nat} {h h':Heap},jn i h→(∀o,h.get? it=some o→h'.get? it=some o)→jn i h'
 obj:∀{i:Nat} {h:Heap},jn i h→∃o n vs,h.get? it=some o∧o.cls=.type n∧(n="list_iterator"∨n="tuple_iterator"∨n="range_iterator")∧o.data=.fields vs
theorem TU(ho:s.heap.get? it=some o)(hc:o.cls=.type n)(hn:n="list_iterator"∨n="tuple_iterator"∨n="range_iterator")(hd:o.data=.fields vs)(h:Q () s):
  wpAny cx.M A (letOwnedTupleGo t (.ref it) y) Q E s:=by
 have nc:(["enumerate","zip","dict_itemiterator","dict_reverseitemiterator","odict_iterator","itertools.zip_longest","itertools.pairwise"].contains n)=false:=by
  rcases hn with rfl|rfl|rfl<;>decide
 induction t using PySem.Expr.casesOn<;>first|exact wpAny_pure h|skip
 all_goals
  induction y using PySem.Value.casesOn<;>first|exact wpAny_pure h|skip
  unfold letOwnedTupleGo;refine wpAny_bind (wpAny_load ho ?_);rw[hc,hd];dsimp only;rw[nc,Bool.false_and,if_neg qD];exact wpAny_pure h
theorem av.live(l:av P fe m env I σ n h)(b:Addr)(hb:aF env b):∃o,h.get? b=some o:=by
 rcases hb with rfl|⟨y,hy,hc⟩
 ·obtain⟨mm,⟨o,_,_,ho,_⟩,_⟩:=l.ns;exact⟨o,ho⟩
 ·obtain⟨c,v,h1,o,ho,_⟩:=l.there y hy;exact qc (hc.symm.trans h1)▸⟨o,ho⟩
end
set_option genInjectivity false in
structure Hp where
 cx:Cx
 k:Nat
 A:Around
 fe:FE
 env:Env
 it:Addr
 X:Addr→Prop
 jn:Nat→Heap→Prop
 I:IM
 σ:Nat→Addr
 n:Nat
 s:Shared
structure n7 (C:Hp) (nx:Nat→St→Option (Option V)):Prop where
 w:Walk C.cx C.k C.A C.it nx C.jn C.I C.σ C.n
 dead:C.s.heap.get? C.it=none
 nX:¬C.X C.it
 nO:¬aF C.env C.it
 b:iI C.cx C.I
 fit:sH C.k C.A
structure uo (C:Hp) (i:Nat) (m:ai) (I:IM) (σ:Nat→Addr) (st:St) (s:Shared):Prop where
 x:aM C.cx.P (fun b=>C.X b∨b=C.it) C.I C.σ C.n C.s.heap I σ st s.heap
 sm:bw C.s s
 l:av C.cx.P C.fe m C.env I σ st.length s.heap
 cu:C.jn i s.heap
 ap:Apart I σ st.length C.it
section
variable{st:St}
theorem n7.here(W:n7 C nx)(L:uo C i m I σ st s):au C.cx C.k C.A I σ st s:=⟨W.fit,W.b.mono L.x.le.i,L.x.rel⟩
theorem n7.nc(W:n7 C nx)(L:uo C i m I σ st s)(v:Option Value):¬s.heap.IsCell C.it v:=fun⟨o',h1,h2⟩=>by
 obtain⟨o,tn,V9,ho,_,_,hod⟩:=W.w.obj L.cu;rw[qc (h1.symm.trans ho),hod]at h2;cases h2
theorem n7.next(W:n7 C nx)(L:uo C i m I σ st s)(hv:nx i st=some (some v))(hQ:∀y s',uo C (i+1) m I σ st s'→aq I C.cx.P σ st.length v y→Q (some y) s'):wpAny C.cx.M C.A (pyNext (.ref C.it)) Q E s:=
 W.w.item hv (W.here L) L.x.le L.cu fun y h' tk ry Z8 CG=>by
  obtain⟨o',tn',adb,Wa,_⟩:=W.w.obj Z8;have xi:aM C.cx.P (fun b=>b=C.it) I σ st.length s.heap I σ st h':=aM.own L.x.rel L.ap.1 L.ap.2 CG Wa;exact hQ y {s with heap:=h',toks:=tk} ⟨L.x.trans (xi.weaken fun b q=>.inr q),L.sm,L.l.Ji (fun b o hb e=>(CG.2 b hb).trans e) W.nO (W.nc L),Z8,L.ap⟩ ry
theorem n7.lets(W:n7 C nx)(L:uo C i m I σ st s)(h:Q () s):wpAny C.cx.M C.A (letOwnedTupleGo t (.ref C.it) y) Q E s:=
 let⟨_,_,_,ho,hc,hn,hd⟩:=W.w.obj L.cu
 TU ho hc hn hd h
theorem n7.stop(W:n7 C nx)(L:uo C i m I σ st s)(hv:nx i st=some none)(hQ:∀s',aM C.cx.P C.X C.I C.σ C.n C.s.heap I σ st s'.heap→bw C.s s'→av C.cx.P C.fe m C.env I σ st.length s'.heap→Q none s'):wpAny C.cx.M C.A (pyNext (.ref C.it)) Q E s:=
 W.w.done hv (W.here L) L.x.le L.cu fun h' hx=>hQ {s with heap:=h'} (aM.last L.x (h₂:=h') (fun b o hb e=>hx b o hb e) W.dead L.ap) L.sm (L.l.Ji (fun b o hb e=>hx b o hb e) W.nO (W.nc L))
theorem n7.on(W:n7 C nx)(L:uo C i m I σ st s)(x:aM C.cx.P C.X I σ st.length s.heap I' af st' s'.heap)(sm:bw s s')(l:av C.cx.P C.fe m' C.env I' af st'.length s'.heap):uo C i m' I' af st' s':=
 ⟨L.x.trans (x.weaken fun b q=>.inl q),L.sm.trans sm,l,W.w.BE L.cu fun o e=>x.keep C.it o e W.nX L.ap.2,x.apart ((by obtain⟨o,_,_,ho,_⟩:=W.w.obj L.cu;exact⟨o,ho⟩)) L.ap⟩
theorem n7.fin(W:n7 C nx)(L:uo C i m I σ st s):aM C.cx.P C.X C.I C.σ C.n C.s.heap I σ st s.heap:=aM.last L.x (fun b o _ e=>e) W.dead L.ap
end
section
inductive Pp (C:Hp) (ev:Ev) (names:List Str) (t:Expr) (body:List Stmt) (nx:Nat→St→Option (Option V)) (Q:cC→Prop) (n:Nat) (s:Shared):Prop
 |mk {i:Nat} {m:ai} {I:IM} {σ:Nat→Addr} {st:St} (L:uo C i m I σ st s) (g:Good C.cx.S C.cx.pre (wC ev C.k C.fe names t body nx n i m st) Q)
theorem Pq(S:aU cx ev)(eC:C.cx=cx)(W:n7 C nx){n:Nat}{Q:cC→Prop}{F:Flow→Shared→Prop}{s:Shared}{K:Option Value→Shared→Prop}{E:Value→Shared→Prop}
  (J:Pp C ev names t body nx Q (n+1) s)(hX:∀b,aF C.env b→C.X b)(hF:∀p,Q p→Ends C.cx C.X C.I C.σ C.n C.s (fun I σ st o f s=>rM I C.cx.P σ st.length o.1 f∧av C.cx.P C.fe o.2 C.env I σ st.length s.heap) F p)
  (h0:∀s',F .next s'→K none s')(h1:∀y s₁,(∀J':Flow→Shared→Prop,(∀f br,f=.next∨f=.cont→Pp C ev names t body nx Q n br→J' f br)→(∀f br,(f=.brk∧F .next br)∨((∃u,f=.ret u)∧F f br)→J' f br)→wpAny C.cx.M C.A (letOwnedTupleGo t (.ref C.it) y) (fun _ s=>wpAny C.cx.M C.A (assign t C.env y) (fun _ s=>wpAny C.cx.M C.A (execs body C.env) J' E s) E s) E s₁)→K (some y) s₁):
  wpAny C.cx.M C.A (pyNext (.ref C.it)) K E s:=by
 subst eC;obtain⟨L,g⟩:=J
 rename_i i m I σ st
 rw[wC.eq_2]at g;refine aN g fun o RK g=> ?_;induction o using qe with
 |none=>exact W.stop L RK fun s' x sm l=>h0 s' (hF _ g I σ _ s' x sm ⟨.next,l⟩)
 |some v=>
  refine W.next L RK fun y s₁ Jj ry=>h1 y s₁ fun J' hn hb=>W.lets Jj (aN g fun m' hm g=> ?_);refine pA (W.here Jj) Jj.l ry hm fun br bQ cK dX=> ?_;have Wb:=W.on Jj (bQ.weaken hX) cK dX;refine S.b (W.here Wb) dX (Good.mono (fun p gp BF sM f jP jk p9 ro=> ?_) (Good.bind g));obtain⟨⟨out,aaU⟩,xQ⟩:=p;obtain⟨ro,uX⟩:=ro;have wD:=W.on Wb (jk.weaken hX) p9 uX;have Lk:uo C (i+1) (gE names aaU) BF sM xQ jP:=⟨wD.x,wD.sm,uX.less fun x v e=>sL e,wD.cu,wD.ap⟩;induction out using Out.casesOn with
  |next=>obtain rfl:=ro;exact hn _ _ (.inl rfl) ⟨Lk,gp⟩
  |cont=>obtain rfl:=ro;exact hn _ _ (.inr rfl) ⟨Lk,gp⟩
  |brk=>obtain rfl:=ro;exact hb _ _ (.inl ⟨rfl,hF _ gp BF sM _ jP (W.fin wD) wD.sm ⟨.next,uX⟩⟩)
  |ret u=>obtain⟨_,rfl,hh⟩:=ro;exact hb _ _ (.inr ⟨⟨_,rfl⟩,hF _ gp BF sM _ jP (W.fin wD) wD.sm ⟨.ret hh,uX⟩⟩)
theorem Hq(S:aU cx ev){jn:Nat→Heap→Prop}{names:List Str}{t:Expr}{body:List Stmt}{fuel:Nat}
  {Q:Flow→Shared→Prop}{R:Result→Shared→Prop}(hR:∀f s',Q f s'→R (.ok f) s')(zu:au cx k A mV jt lK kD)(W:Walk cx k A it nx jn mV jt lK.length)(dead:kD.heap.get? it=none)
  (kp:∀b o,kD.heap.get? b=some o→s₁.heap.get? b=some o)(Jk:bw kD s₁)(c0:jn 0 s₁.heap)(Jl:av cx.P fe m env mV jt lK.length kD.heap)
  (g:Good cx.S cx.pre (wC ev k fe names t body nx fuel 0 m lK) (EO cx fe env mV jt lK kD Q)):
  codeAny cx.M A (.forLoop t (.ref it) body [] env) R s₁:=by
 have Jm:=aM.grow zu.rel kp
 let C:Hp:=⟨cx,k,A,fe,env,it,aF env,jn,mV,jt,lK.length,kD⟩
 have nO:¬aF env it:=fun ob=>by
  obtain⟨o,ho⟩:=Jl.live it ob;exact nn (dead.symm.trans ho)
 have WC:n7 C nx:=⟨W,dead,nO,nO,zu.base,zu.fit⟩;have ap:Apart mV jt lK.length it:=⟨zu.rel.pX dead,fun j hj z=>by
  obtain⟨o,ho⟩:=zu.rel.live hj;exact nn (dead.symm.trans (z▸ho))⟩
 refine codeAny_forLoop_any (fun n s=>Pp C ev names t body nx (EO cx fe env mV jt lK kD Q) n s) (fun n s J=> ?_) fuel ⟨⟨Jm.weaken (fun _ q=>q.elim),Jk,Jl.ext Jm,c0,ap⟩,g⟩;induction n using qk with
 |zero=>obtain⟨_,g⟩:=J;exact g.elim
 |succ n=>
  refine Pq S (C:=C) rfl WC (F:=Q) J (fun _ q=>q) (fun p q=>q) (fun s' q=>wpAny_execs_nil (hR _ _ q)) fun y s₁ h=> ?_;refine h _ (fun f br hf J'=> ?_) fun f br hf=> ?_
  ·rcases hf with rfl|rfl
   ·exact⟨n,qE _,J'⟩
   ·exact⟨n,qE _,J'⟩
  ·rcases hf with⟨rfl,q⟩|⟨⟨u,rfl⟩,q⟩
   ·exact hR _ _ q
   ·exact hR _ _ q
end
noncomputable def intsFrom:Nat→Nat→List V
 |_,0=>[]
 |i,n+1=>.int (.ofNat i)::intsFrom (Nat.succ i) n
theorem Pr:∀{j i:Nat} {v:V},di (intsFrom j n) i=some v→i<n∧v=.int ((j+i:Nat):Int):=by
 induction n with
 |zero=>exact fun e=>nn e
 |succ n ih=>
  intro j i v e;induction i using qk with
  |zero=>exact⟨Nat.succ_pos _,(qc e).symm⟩
  |succ i=>
   obtain⟨h1,h2⟩:=ih (j:=Nat.succ j) (i:=i) e;exact⟨Nat.succ_lt_succ h1,h2.trans (congrArg (fun x:Nat=>V.int (x:Int)) (Nat.succ_add_eq_add_succ j i))⟩
theorem Dm:∀{j i:Nat},di (intsFrom j n) i=none→n≤i:=by
 induction n with
 |zero=>exact fun _=>qm _
 |succ n ih=>
  intro j i e;induction i using qk with
  |zero=>exact ns e
  |succ i=>exact Nat.succ_le_succ (ih (j:=Nat.succ j) (i:=i) e)
noncomputable def Ai{α:Type}(l:List α):Bool:=match l with
 |[]=>true
 |_::_=>false
noncomputable def Jo(l:Nat)(i:Nat)(st:St):Option (Option V):=cD (listAt st l) fun pv=>fH (Ai pv.1) (fH (Nat.blt (len pv.2) 500) (some (di pv.2 i)))
theorem zv{st:St}{o:Option V}(h:Jo l i st=some o):∃vs,listAt st l=some ([],vs)∧di vs i=o:=aK h fun pv e h=>by
 obtain⟨p,vs⟩:=pv;induction p using qh with
 |nil=>exact⟨vs,e,qc (cW h)⟩
 |cons=>exact ft (cQ h)
noncomputable def EG(e:Expr):Bool:=match e with
 |.Set _ _ _=>false
 |_=>true
noncomputable def Mh(ev:Ev)(k:Nat)(fe:FE)(t:Expr)(body:List Stmt)(m:ai)(v:V)(st:St):ig:=match v with
 |.tup vs=>EF ev k fe (mq m) t body vs m st
 |.lst vs=>.loop (forTurn ev k fe t body) (gE (mq m)) vs m st fun q=>.ok q
 |.vI n=>.need (n<1000) (.loop (forTurn ev k fe t body) (gE (mq m)) (intsFrom 0 n) m st fun q=>.ok q)
 |.loc l=>wC ev k fe (mq m) t body (Jo l) 12 0 m st
 |_=>.bad
noncomputable def RL(ev:Ev)(k:Nat)(fe:FE)(m:ai)(st:St)(t jz:Expr)(body jA:List Stmt):ig:=dR (Ai jA) (dR (EG jz) ((ev.e k fe m st jz).bind fun p=>Mh ev k fe t body m p.1 p.2))
noncomputable def Jp(v:V):Option (List V):=match v with
 |.tup vs=>some vs
 |.lst vs=>some vs
 |.vI n=>some (intsFrom 0 n)
 |_=>none
def BG(v:V):Prop:=match v with
 |.vI n=>n<1000
 |_=>True
section
variable{st:St}
theorem Jq(RM:A.handled=none)(h:I a=some {cls:=.type "tuple",data:=.seq xs.toArray n})(r:aG I cx.P σ n₀ vs xs):
  Walk cx k A it (fun i _=>some (di vs i)) (fun i h=>h.IsTupleIter it a i) I σ n₀ where
 item:=fun{i v s I' af st' E Q} hv H le cu hQ=>by
  obtain⟨x,hx,rx⟩:=r.di (qc hv);have EH:s.heap.IsTuple a xs.toArray:=⟨_,H.rel.sub _ _ (le.i _ _ h),rfl,n,rfl⟩;exact wpAny_pyNext_tuple_item cu EH (by simpa using hx) fun h' c sb=>hQ x h' s.toks (rx.mono le) c sb
 done:=fun{i s I' af st' E Q} hv H le cu hQ=>by
  have EH:s.heap.IsTuple a xs.toArray:=⟨_,H.rel.sub _ _ (le.i _ _ h),rfl,n,rfl⟩;have e1:=r.length;have hn:di vs i=none:=qc hv;rw[gH,List.getElem?_eq_none_iff]at hn;exact wpAny_pyNext_tuple_end H.fit.handled cu EH (by simp;lia) hQ
 BE:=fun⟨o,h1,h2,h3⟩ k=>⟨o,k o h1,h2,h3⟩
 obj:=fun⟨o,h1,h2,h3⟩=>⟨o,_,_,h1,h2,.inr (.inl rfl),h3⟩
theorem Mi(RM:A.handled=none)(h:I a=some {cls:=.type "list",data:=.seq xs.toArray n})(r:aG I cx.P σ n₀ vs xs):
  Walk cx k A it (fun i _=>some (di vs i)) (fun i h=>h.IsListIter it a i) I σ n₀ where
 item:=fun{i v s I' af st' E Q} hv H le cu hQ=>by
  obtain⟨x,hx,rx⟩:=r.di (qc hv);have EH:s.heap.IsList a xs.toArray:=⟨_,H.rel.sub _ _ (le.i _ _ h),rfl,n,rfl⟩;exact wpAny_pyNext_list_item cu EH (by simpa using hx) fun h' c sb=>hQ x h' s.toks (rx.mono le) c sb
 done:=fun{i s I' af st' E Q} hv H le cu hQ=>by
  have EH:s.heap.IsList a xs.toArray:=⟨_,H.rel.sub _ _ (le.i _ _ h),rfl,n,rfl⟩;have e1:=r.length;have hn:di vs i=none:=qc hv;rw[gH,List.getElem?_eq_none_iff]at hn;exact wpAny_pyNext_list_end H.fit.handled cu EH (by simp;lia) hQ
 BE:=fun⟨o,h1,h2,h3⟩ k=>⟨o,k o h1,h2,h3⟩
 obj:=fun⟨o,h1,h2,h3⟩=>⟨o,_,_,h1,h2,.inl rfl,h3⟩
theorem Pu(hl:l<n₀):Walk cx k A it (Jo l) (fun i h=>h.IsListIter it (σ l) i) I σ n₀ where
 item:=fun{i v s I' af st' E Q} hv H le cu hQ=>by
  obtain⟨vs,hp,hv⟩:=zv hv;obtain⟨xs,ep,g,r,_⟩:=H.rel.listAt hp;obtain⟨x,hx,rx⟩:=r.di hv;exact wpAny_pyNext_list_item cu ⟨_,le.s l hl▸g,rfl,ep,rfl⟩ (by simpa using hx) fun h' c sb=>hQ x h' s.toks rx c sb
 done:=fun{i s I' af st' E Q} hv H le cu hQ=>by
  obtain⟨vs,hp,hv⟩:=zv hv;obtain⟨xs,ep,g,r,_⟩:=H.rel.listAt hp;have e1:=r.length;rw[gH,List.getElem?_eq_none_iff]at hv;exact wpAny_pyNext_list_end H.fit.handled cu ⟨_,le.s l hl▸g,rfl,ep,rfl⟩ (by simp;lia) hQ
 BE:=fun⟨o,h1,h2,h3⟩ k=>⟨o,k o h1,h2,h3⟩
 obj:=fun⟨o,h1,h2,h3⟩=>⟨o,_,_,h1,h2,.inl rfl,h3⟩
theorem Jr:Walk cx k A it (fun i _=>some (di (intsFrom 0 n) i)) (fun i h=>IsRangeIter h it (i:Int) ((n:Int)-(i:Int)) 1) I σ n₀ where
 item:=fun{i v s I' af st' E Q} hv H le cu hQ=>by
  obtain⟨h1,h2⟩:=Pr (qc hv);rw[Nat.zero_add]at h2;subst h2;exact wpAny_pyNext_range_item cu (by lia) fun h' c sb=>hQ _ h' _ (.int _ _) (by
   have e1:((i:Int)+1)=((i+1:Nat):Int):=by rfl
   have e2:(n:Int)-(i:Int)-1=(n:Int)-((i+1:Nat):Int):=by lia
   rw[e1,e2]at c;exact c) sb
 done:=fun{i s I' af st' E Q} hv H le cu hQ=>by
  have:=Dm (qc hv);exact wpAny_pyNext_range_end H.fit.handled cu (by lia) hQ
 BE:=fun h1 k=>k _ h1
 obj:=fun h1=>⟨_,_,_,h1,rfl,.inr (.inr rfl),rfl⟩
theorem Mj{all:List V}{Q:dU}(H:au cx k A I σ st s)(r:aq I cx.P σ st.length v y)(e:Jp v=some all)(hp:BG v)
  (h:∀(ob:Obj) (jn:Nat→Heap→Prop),ob.isFreed=false→Walk cx k A s.heap.objs.size (fun i _=>some (di all i)) jn I σ st.length→jn 0 (s.heap.push ob)→
   (∀(i:Nat) (s':Shared) (Q:dU) (E:dU),jn i s'.heap→Q (.ref s.heap.objs.size) s'→wpAny cx.M A (pyIter (.ref s.heap.objs.size)) Q E s')→Q (.ref s.heap.objs.size) {s with heap:=s.heap.push ob}):
  wpAny cx.M A (pyIter y) Q E s:=by
 replace r:=r.inv;induction v using V.casesOn with
 |tup vs=>induction r using iV.casesOn with
  |mk gg rr=>exact wpAny_pyIter_tuple ⟨_,H.rel.sub _ _ gg,rfl,_,rfl⟩ (h _ _ rfl (qc e▸Jq H.fit.handled gg rr) ⟨_,Heap.get?_push_size _ rfl,rfl,rfl⟩ fun i s Q E c q=>wpAny_pyIter_tupleiter c q)
 |lst vs=>induction r using mU.casesOn with
  |mk gg rr=>exact wpAny_pyIter_list ⟨_,H.rel.sub _ _ gg,rfl,_,rfl⟩ (h _ _ rfl (qc e▸Mi H.fit.handled gg rr.up) ⟨_,Heap.get?_push_size _ rfl,rfl,rfl⟩ fun i s Q E c q=>wpAny_pyIter_listiter c q)
 |vI n=>induction r using uJ.casesOn with
  |mk gg=>
   have hp:n<1000:=hp;have sz:Builtin.Range.rangeSize 0 (n:Int) 1=(n:Int):=by
    rw[rangeSize_one]
    split<;>lia
   refine wpAny_pyIter_range (H.rel.sub _ _ gg) (small_one (by decide) (by decide) (by lia) (by lia)) ?_;refine h _ _ rfl (qc e▸Jr (n:=n)) ?_ fun i s Q E c q=>wpAny_pyIter_rangeiter c q;show IsRangeIter _ _ _ _ _;rw[sz];have:=Heap.get?_push_size s.heap (o:={cls:=.type "range_iterator",data:=.fields #[rawInt 0,rawInt (n:Int),rawInt 1]}) rfl;trivial
 |_=>exact nn e
theorem BH{y:Value}{vs:List V}{R:Result→SP}(S:aU cx ev)(hR:∀f s',Q f s'→R (.ok f) s')(H:au cx k A I σ st s)(l:av cx.P fe m env I σ st.length s.heap)(r:aq I cx.P σ st.length v y)(e:Jp v=some vs)(hp:BG v)
  (g:Good cx.S cx.pre (EF ev k fe (mq m) t body vs m st) (EO cx fe env I σ st s Q)):wpAny cx.M A (pyIter y) (fun it br=>codeAny cx.M A (.forLoop t it body [] env) R br) E s:=
 Mj H r e hp fun ob jn RN W c0 _=>Hq S (Q:=Q) (names:=mq m) hR H W (dD _) (fun _ _ e=>Heap.get?_push_of_some _ e) ⟨rfl,rfl,rfl⟩ c0 l (fuel:=vs.length+1) (TS (pre:=[]) rfl▸g)
theorem TV(S:aU cx ev)(hR:∀f s',Q f s'→R (.ok f) s')(H:au cx k A I σ st s)(l:av cx.P fe m env I σ st.length s.heap)(r:aq I cx.P σ st.length v y)
  (g:Good cx.S cx.pre (Mh ev k fe t body m v st) (EO cx fe env I σ st s Q)):wpAny cx.M A (pyIter y) (fun it br=>codeAny cx.M A (.forLoop t it body [] env) R br) E s:=by
 induction v using V.casesOn with
 |tup vs=>exact BH S hR H l r rfl trivial g
 |lst vs=>exact BH S hR H l r rfl trivial (CF (pW g))
 |vI n=>exact BH S hR H l r rfl g.1 (CF (pW g.2))
 |loc j=>
  replace r:=r.inv;induction r using iG.casesOn with
  |mk hj=>
   refine aN g fun o RK _=> ?_;obtain⟨vs,hp,_⟩:=zv RK;obtain⟨xs,ep,gg,_⟩:=H.rel.listAt hp;exact wpAny_pyIter_list ⟨_,gg,rfl,ep,rfl⟩ (Hq S (Q:=Q) (names:=mq m) hR H (Pu hj) (dD _) (fun _ _ e=>Heap.get?_push_of_some _ e) (s₁:={s with heap:=s.heap.push _}) ⟨rfl,rfl,rfl⟩ ⟨_,Heap.get?_push_size _ rfl,rfl,rfl⟩ l g)
 |_=>exact g.elim
theorem vL(h:EG jz=true)(x:Value):foldedSetIterable jz env x=pure x:=by induction jz using PySem.Expr.casesOn<;>first|rfl|exact ft h
theorem Wc(S:aU cx ev)(H:au cx k A I σ st s)(l:av cx.P fe m env I σ st.length s.heap)(g:Good cx.S cx.pre (RL ev k fe m st t jz body jA) (EO cx fe env I σ st s Q)):
  wpAny cx.M A (exec (.For t jz body jA pos) env) Q E s:=by
 obtain⟨h1,g0⟩:=bA g;obtain⟨h2,g1⟩:=bA g0;clear g g0;induction jA using qh with
 |cons=>exact ft h1
 |nil=>exact wpAny_For (S.ee H l g1 fun bG aZ aX s₁ ji iX aV aO aY bD b9 aQ=>TV S (Q:=Q) (fun f s' q=>q) aY bD b9 (Good.mono (fun p gp=>EO.into gp aV aO) aQ)) (vL h2)
end
noncomputable def EI(ev:Ev)(k:Nat)(fe:FE)(names:List Str)(t:Expr)(body:List Stmt):Nat→ai→St→ig
 |0,_,_=>.bad
 |f+1,m,st=>(ev.t k fe m st t).bind fun p=>match p.1 with
  |true=>(ev.b k fe m p.2 body).bind (turned names (EI ev k fe names t body f))
  |false=>.ok ((.next,m),p.2)
noncomputable def Hs(ev:Ev)(k:Nat)(fe:FE)(m:ai)(st:St)(t:Expr)(body jA:List Stmt):ig:=dR (Ai jA) (EI ev k fe (mq m) t body 12 m st)
section
variable{st:St}
def RO(cx:Cx)(fe:FE)(env:Env)(W:ai→St→ig)(I:IM)(σ:Nat→Addr)(st:St)(s:Shared)(Q:Flow→SP)(s':Shared):Prop:=
 ∃m' I' af st',Good cx.S cx.pre (W m' st') (EO cx fe env I σ st s Q)∧aM cx.P (aF env) I σ st.length s.heap I' af st' s'.heap∧bw s s'∧av cx.P fe m' env I' af st'.length s'.heap
theorem Js(S:aU cx ev)(H:au cx k A bG aZ aX s₁)(l:av cx.P fe m env bG aZ aX.length s₁.heap)
  (x:aM cx.P (aF env) I σ st.length s.heap bG aZ aX s₁.heap)(sm:bw s s₁)(g:Good cx.S cx.pre ((ev.b k fe m aX body).bind (turned names W)) (EO cx fe env I σ st s Q))
  (hn:∀s',RO cx fe env W I σ st s Q s'→R .next s')(hc:∀s',RO cx fe env W I σ st s Q s'→R .cont s')(hb:∀s',Q .next s'→R .brk s')(hr:∀v s',Q (.ret v) s'→R (.ret v) s'):wpAny cx.M A (execs body env) R E s₁:=by
 refine S.b H l (Good.mono (fun p gp dj bH f br bQ cK ro=> ?_) (Good.bind g));obtain⟨⟨out,m₂⟩,bW⟩:=p;obtain⟨ro,dX⟩:=ro;replace x:=x.trans bQ;replace sm:=sm.trans cK;have J:Good cx.S cx.pre (W (gE names m₂) bW) (EO cx fe env I σ st s Q)→RO cx fe env W I σ st s Q br:=fun gp=>⟨_,dj,bH,bW,gp,x,sm,dX.less fun x v e=>sL e⟩;induction out using Out.casesOn with
 |next=>obtain rfl:=ro;exact hn br (J gp)
 |cont=>obtain rfl:=ro;exact hc br (J gp)
 |brk=>obtain rfl:=ro;exact hb br (gp dj bH _ br x sm ⟨.next,dX⟩)
 |ret u=>obtain⟨_,rfl,hh⟩:=ro;exact hr _ br (gp dj bH _ br x sm ⟨.ret hh,dX⟩)
theorem Pw(S:aU cx ev)(H:au cx k A I σ st s)(l:av cx.P fe m env I σ st.length s.heap)(g:Good cx.S cx.pre (Hs ev k fe m st t body jA) (EO cx fe env I σ st s Q)):
  wpAny cx.M A (exec (.While t body jA pos) env) Q E s:=by
 obtain⟨h1,g⟩:=bA g;induction jA using qh with
 |cons=>exact ft h1
 |nil=>
  refine wpAny_While (codeAny_whileLoop (fun n=>RO cx fe env (EI ev k fe (mq m) t body n) I σ st s Q) ?_ 12 ⟨m,I,σ,st,g,aM.refl H.rel,bw.refl s,l⟩);rintro n s' ⟨m',I',af,st',g,x,sm,l'⟩;induction n using qk with
  |zero=>exact g.elim
  |succ n=>
   refine S.tt (H.go x) l' g fun bG aZ aX s₁ c aV aO aY bD aQ=> ?_;have xa:=x.trans (aV.weaken (Y:=aF env) fun _ q=>q.elim);induction c using qd with
   |true=>exact Js S aY bD xa (sm.trans aO) aQ (fun s' j=>⟨n,qE _,j⟩) (fun s' j=>⟨n,qE _,j⟩) (fun s' q=>q) (fun v s' q=>q)
   |false=>exact wpAny_execs_nil (aQ bG aZ _ s₁ xa (sm.trans aO) ⟨.next,bD⟩)
end
noncomputable def EJ(o:Option NameKind):Bool:=match o with
 |some k=>En k
 |none=>false
theorem GF(h:EJ o=true):o=some .local:=by
 induction o using qe with
 |none=>exact ft h
 |some k=>induction k using PySem.NameKind.casesOn<;>first|rfl|exact ft h
section
variable{st:St}
noncomputable abbrev qT(fe:FE):Expr→V→ai→Option ai:=uW fun n=>EJ (lk n fe.scope.names)
theorem Jt(H:au cx k A I σ st s)(l:av cx.P fe m env I σ st.length s.heap)(hv:aq I cx.P σ st.length v y)(e:qT fe t v m=some m')
  (h:∀s',aM cx.P (fun b=>b=env.locals) I σ st.length s.heap I σ st s'.heap→bw s s'→av cx.P fe m' env I σ st.length s'.heap→Q () s'):wpAny cx.M A (assign t env y) Q E s:=Ah (fun H l e r h=>yp H l (GF e) r h) H l hv e h
noncomputable def Dt(ev:Ev)(k:Nat)(fe:FE)(m:ai)(st:St)(fB:List Expr):aA (Bool×St):=match fB with
 |[]=>.ok (true,st)
 |[c]=>ev.t k fe m st c
 |_=>.bad
noncomputable def qU(ev:Ev)(k:Nat)(fe:FE)(names:List Str)(t eS:Expr)(fB:List Expr)(L:Nat):List V→ai→St→aA St
 |[],m,st=>.ok st
 |v::vs,m,st=>cz (qT fe t v m) fun m'=>(Dt ev k fe m' st fB).bind fun b=>match b.1 with
  |true=>(ev.e k fe m' b.2 eS).bind fun p=>(xE p.2 L p.1).bind fun st'=>qU ev k fe names t eS fB L vs (gE names m') st'
  |false=>qU ev k fe names t eS fB L vs (gE names m') b.2
noncomputable def Aj(env:Env)(fB:List Expr):Sem Bool:=forIn fB true fun c r=>if r=true then(do let r ←isTrue c env (eval c env);pure (.yield r))else pure (.yield r)
theorem EK(eS kZ jz:Expr)(fB:List Expr)(scope:Scope)(pos:Pos)(it acc:Value)(env:Env):
  compTurn (.ListComp eS [⟨kZ,jz,fB,0⟩] scope pos) 0 it acc env=(standAt jz.pos>>=fun _=>pyNext it>>=fun r=>match r with
   |none=>pure (.done .next)
   |some v=>letOwnedTupleGo kZ it v>>=fun _=>assign kZ env v>>=fun _=>Aj env fB>>=fun ok=>
    if ok=true then(eval eS env>>=fun x=>call (.builtin "list.append") [acc,x]>>=fun _=>pure ())>>=fun _=>
     again (.compLoop (.ListComp eS [⟨kZ,jz,fB,0⟩] scope pos) 0 it acc env)
    else again (.compLoop (.ListComp eS [⟨kZ,jz,fB,0⟩] scope pos) 0 it acc env)):=by rfl
theorem TX(S:aU cx ev)(H:au cx k A I σ st s)(l:av cx.P fe m env I σ st.length s.heap)
  (g:Good cx.S cx.pre (Dt ev k fe m st fB) R)
  (h:∀I' af st' s' b,aM cx.P (fun _=>False) I σ st.length s.heap I' af st' s'.heap→bw s s'→au cx k A I' af st' s'→av cx.P fe m env I' af st'.length s'.heap→R (b,st')→Q b s'):
  wpAny cx.M A (Aj env fB) Q E s:=by
 unfold Dt at g;unfold Aj
 split at g
 ·rw[List.forIn_nil];exact wpAny_pure (h I σ st s true (aM.refl H.rel) (bw.refl s) H l g)
 ·rename_i c
  rw[List.forIn_cons];refine wpAny_bind ?_;rw[if_pos rfl];refine wpAny_bind (S.t H l (Good.mono (fun p gp I' af b s' x sm e=> ?_) g));have e':p.1=b:=e;refine wpAny_pure ?_;dsimp only;rw[List.forIn_nil];exact wpAny_pure (h I' af p.2 s' b x sm (H.go x) (l.ext x) (e'▸gp))
 ·exact g.elim
def RP(prog:Program)(w:World)(A:Around)(eS kZ:Expr)(fB:List Expr)(env:Env)(it acc v:Value)(J:SP)(E:dU)(s:Shared):Prop:=
 wpAny (model prog w) A (letOwnedTupleGo kZ it v) (fun _ s=>wpAny (model prog w) A (assign kZ env v) (fun _ s=>wpAny (model prog w) A (Aj env fB) (fun ok s=>(ok=true→wpAny (model prog w) A (eval eS env) (fun x s=>
  wpAny (model prog w) A (call (.builtin "list.append") [acc,x]) (fun _ s=>J s) E s) E s)∧(ok=false→J s)) E s) E s) E s
theorem Dn(J:Nat→Shared→Prop)
  (turn:∀n s,J n s→∀(J':Shared→Prop) (K:Option Value→Shared→Prop) (E:Value→Shared→Prop),(∀m s,m<n→J m s→J' s)→(∀s,R (.ok .next) s→K none s)→(∀v s,RP prog w A eS kZ fB env it acc v J' E s→K (some v) s)→wpAny (model prog w) A (pyNext it) K E s)
  (n:Nat)(h:J n s):codeAny (model prog w) A (.compLoop (.ListComp eS [⟨kZ,jz,fB,0⟩] scope pos) 0 it acc env) R s:=by
 refine codeAny_loop rfl J (fun n s hI=> ?_) n h;show wpAny _ _ ((compTurn (.ListComp eS [⟨kZ,jz,fB,0⟩] scope pos) 0 it acc env).onRaise (fun x=>do noteFrame x env;theTreesLotGoes x)) _ _ s;refine wpAny_noted ?_;rw[EK];refine wpAny_bind (wpAny_standAt (wpAny_bind (turn n s hI (fun s=>∃m,m<n∧J m s) _ _ (fun m s h j=>⟨m,h,j⟩) (fun s h=>wpAny_pure h) fun v s h=> ?_)));refine wpAny_bind (wpAny_mono h (fun _ s h=>wpAny_bind (wpAny_mono h (fun _ s h=>wpAny_bind (wpAny_mono h (fun ok s h=> ?_) fun _ _ h=>h)) fun _ _ h=>h)) fun _ _ h=>h);induction ok using qd with
 |true=>
  rw[if_pos rfl];exact wpAny_bind (wpAny_bind (wpAny_mono (h.1 rfl) (fun x s h=>wpAny_bind (wpAny_mono h (fun _ s h=>wpAny_pure (wpAny_pure ⟨rfl,h⟩)) fun _ _ h=>h)) fun _ _ h=>h))
 |false=>
  rw[if_neg qD];exact wpAny_pure ⟨rfl,h.2 rfl⟩
end
section
inductive Ju (C:Hp) (ev:Ev) (names:List Str) (t eS:Expr) (fB:List Expr) (L:Nat) (D:Addr) (all:List V) (Z:St→Prop) (n:Nat) (s:Shared):Prop
 |mk {i:Nat} {rest:List V} {m:ai} {I:IM} {σ:Nat→Addr} {st:St} (q:uo C i m I σ st s) (hn:rest.length=n) (ha:all.drop i=rest) (g:Good C.cx.S C.cx.pre (qU ev C.k C.fe names t eS fB L rest m st) Z) (hl:L<st.length) (hd:σ L=D)
theorem Ml(S:aU cx ev)(eC:C.cx=cx)(W:n7 C (fun i _=>some (di all i)))(hX:C.X=fun b=>b=C.env.locals){L n:Nat}{D:Addr}{Z:St→Prop}{s:Shared}{J':Shared→Prop}{K:Option Value→Shared→Prop}
  (J:Ju C ev names t eS fB L D all Z n s)(hJ:∀j s,j<n→Ju C ev names t eS fB L D all Z j s→J' s)
  (h0:∀I' af st' s',Z st'→aM C.cx.P C.X C.I C.σ C.n C.s.heap I' af st' s'.heap→bw C.s s'→af L=D→L<st'.length→Apart I' af st'.length C.env.locals→(∃mm,s'.heap.Ns C.env.locals mm)→K none s')
  (h1:∀v s,RP cx.prog cx.w C.A eS t fB C.env (.ref C.it) (.ref D) v J' E s→K (some v) s):wpAny C.cx.M C.A (pyNext (.ref C.it)) K E s:=by
 subst eC;obtain⟨q,hn,ha,g,hl,hd⟩:=J
 rename_i i rest m I σ st
 have hx:∀{I' rF:IM} {af oz:Nat→Addr} {n':Nat} {iH:St} {h' La:Heap},aM C.cx.P (fun _=>False) I' af n' h' rF oz iH La→aM C.cx.P C.X I' af n' h' rF oz iH La:=fun x=>x.weaken fun _ q=>q.elim;induction rest using qh with
 |nil=>
  have hz:di all i=none:=by rw[gH,←Nat.add_zero i,←List.getElem?_drop,ha];rfl
  exact W.stop q (congrArg some hz) fun s' x sm l=>h0 I σ st s' g x sm hd hl (l.apart _ (.inl rfl)) ((by obtain⟨mm,h,_⟩:=l.ns;exact⟨mm,h⟩))
 |cons v rest=>
  have hv:di all i=some v:=by rw[gH,←Nat.add_zero i,←List.getElem?_drop,ha];rfl
  have ha':all.drop (i+1)=rest:=by rw[←List.drop_drop,ha];rfl
  have hn:rest.length<n:=hn▸qE _;refine W.next q (congrArg some hv) fun y s₁ Jv ry=>h1 y s₁ (W.lets Jv (aN g fun m' hm g=> ?_));refine Jt (W.here Jv) Jv.l ry hm fun br bQ cK dX=> ?_;have Wd:=W.on Jv (hX▸bQ) cK dX;refine TX S (W.here Wd) dX (Good.bind g) fun dj bH bW ac9 b xb smb cP RQ fL=> ?_;have We:=W.on Wd (hx xb) smb RQ;have Jw:L<bW.length:=qy hl xb.le.n;have RS:bH L=D:=(xb.le.s L hl).trans hd;have fin:∀{BF:IM} {sM:Nat→Addr} {xQ:St} {jP:Shared},uo C (i+1) m' BF sM xQ jP→L<xQ.length→sM L=D→Good C.cx.S C.cx.pre (qU ev C.k C.fe names t eS fB L rest (gE names m') xQ) Z→J' jP:=
   fun q hl hd g=>hJ _ _ hn ⟨⟨q.x,q.sm,q.l.less fun x v e=>sL e,q.cu,q.ap⟩,rfl,ha',g,hl,hd⟩
  induction b using qd with
  |false=>exact⟨fun e=>ft e,fun _=>fin We Jw RS fL⟩
  |true=>
   refine⟨fun _=>S.ee cP RQ fL fun BF sM xQ jP u z jk p9 Px uX aaV ED=> ?_,fun e=>tf e⟩;have RT:=qy Jw jk.le.n;have RU:sM L=D:=(jk.le.s L Jw).trans RS;rw[←RU];exact yy (l:=L) (E:=E) Px aaV (Good.bind ED) (Q:=fun _ Jx=>J' Jx) fun st' Jx EE wF Zd=>fin (W.on (W.on We (hx jk) p9 uX) (hx wF) Zd (uX.ext wF)) (qy RT wF.le.n) (RU▸wF.le.s L RT) EE
theorem Mm(S:aU cx ev){bG:IM}{aZ:Nat→Addr}{aX:St}{s₁:Shared}{it D:Addr}{all:List V}{jn:Nat→Heap→Prop}{names:List Str}{t eS jz:Expr}
  (hR:∀I' af st' s',Z st'→aM cx.P (fun b=>b=tM.locals) bG aZ aX.length s₁.heap I' af st' s'.heap→bw s₁ s'→af L=D→L<st'.length→Apart I' af st'.length tM.locals→(∃mm,s'.heap.Ns tM.locals mm)→R (.ok .next) s')
  (aaW:iI cx bG)(zu:au cx k A mV jt lK kD)(W:Walk cx k A it (fun i _=>some (di all i)) jn bG aZ aX.length)(dead:s₁.heap.get? it=none)(Jy:¬aF tM it)
  (Jm:aM cx.P (fun _=>False) bG aZ aX.length s₁.heap mV jt lK kD.heap)(Jk:bw s₁ kD)(c0:jn 0 kD.heap)(Jl:av cx.P fe m tM mV jt lK.length kD.heap)(Ze:Apart mV jt lK.length it)(hL:L<lK.length)(hD:jt L=D)
  (g:Good cx.S cx.pre (qU ev k fe names t eS fB L all m lK) Z):
  codeAny cx.M A (.compLoop (.ListComp eS [⟨t,jz,fB,0⟩] scope pos) 0 (.ref it) (.ref D) tM) R kD:=by
 let C:Hp:=⟨cx,k,A,fe,tM,it,fun b=>b=tM.locals,jn,bG,aZ,aX.length,s₁⟩
 have WC:n7 C (fun i _=>some (di all i)):=⟨W,dead,fun q=>Jy (.inl q),Jy,aaW,zu.fit⟩;exact Dn (fun n s=>Ju C ev names t eS fB L D all Z n s) (fun n s J J' K E hJ h0 h1=>Ml S (C:=C) rfl WC rfl J hJ (fun I' af st' s' z x sm hd hl ap hn=>h0 s' (hR I' af st' s' z x sm hd hl ap hn)) h1) all.length
  ⟨⟨Jm.weaken (fun _ q=>q.elim),Jk,Jl,c0,Ze⟩,rfl,rfl,g,hL,hD⟩
end
noncomputable def uq:NameKind→Bool:=fun k=>match k with
 |.free=>true
 |_=>false
noncomputable def xR:Option NameKind→Bool:=fun o=>match o with
 |some k=>Bx k
 |none=>false
theorem Ak(h:xR o=true):o=some .cell:=by
 induction o using qe with
 |none=>exact ft h
 |some k=>induction k using PySem.NameKind.casesOn<;>first|rfl|exact ft h
noncomputable def Jz:List (Str×NameKind)→List Str
 |[]=>[]
 |p::l=>p.1::Jz l
theorem Py(l:List (Str×NameKind)):Jz l=l.map (·.1):=by
 induction l with
 |nil=>rfl
 |cons p l ih=>exact congrArg (p.1::·) ih
theorem JA(h:uq k=true):k=.free:=by induction k using PySem.NameKind.casesOn<;>first|rfl|exact ft h
noncomputable def qV:List (Str×NameKind)→List Str
 |[]=>[]
 |p::l=>match uq p.2 with
  |true=>p.1::qV l
  |false=>qV l
theorem Mn(h:x∈qV l):(x,NameKind.free)∈l:=by
 induction l with
 |nil=>exact absurd h qL
 |cons p l ih=>
  rw[qV]at h;induction q:uq p.2 using qd with
  |true=>
   rw[q]at h;rcases List.mem_cons.mp h with e|h
   ·exact List.mem_cons.mpr (.inl (Prod.ext e (JA q).symm))
   ·exact .tail _ (ih h)
  |false=>rw[q]at h;exact .tail _ (ih h)
noncomputable def EL(fs:List (Str×NameKind))(x:Str)(k:NameKind):NameKind:=match uq k with
 |true=>match xR (lk x fs)with
  |true=>.cell
  |false=>k
 |false=>k
noncomputable def oG(fs:List (Str×NameKind)):List (Str×NameKind)→List (Str×NameKind)
 |[]=>[]
 |p::l=>(p.1,EL fs p.1 p.2)::oG fs l
noncomputable def Al(fs:List (Str×NameKind)):List (Str×NameKind)→Bool
 |[]=>true
 |p::l=>eV (Cs (i7 (uq p.2)) (xR (lk p.1 fs))) (Al fs l)
noncomputable def ng(fe:FE)(scope:Scope):Scope:={scope with names:=oG fe.scope.names scope.names}
noncomputable def rR(fe:FE)(scope:Scope):Bool:=eV (IZ scope.kind) (eV (gI scope.names) (eV (rN (Jz scope.names)) (Al fe.scope.names scope.names)))
theorem CH(h:Al fs l=true)(hx:(x,NameKind.free)∈l):fs.lookup x=some .cell:=by
 induction l with
 |nil=>exact absurd hx qL
 |cons p l ih=>
  rcases List.mem_cons.mp hx with e|hx
  ·have:=(bk h).1;rw[←e]at this;exact(xB ..).symm.trans (Ak this)
  ·exact ih (bk h).2 hx
theorem Ht:EL fs n k=if(k==NameKind.free&&lk n fs==some .cell)then .cell else k:=by
 rw[EL];induction k using PySem.NameKind.casesOn with
 |free=>
  induction q:xR (lk n fs)using qd with
  |true=>rw[Ak q];rfl
  |false=>
   have:(lk n fs==some .cell)=false:=beq_eq_false_iff_ne.mpr fun e=>by rw[e]at q;exact tf q
   rw[this];rfl
 |_=>rfl
theorem GG{env:Env}(hs:env.scope.names=fs)(hk:env.scope.kind=.function)(l:List (Str×NameKind)):
  (l.map fun(n,k)=>if(k==NameKind.free&&env.scope.kind==.function&&env.kindOf n==some .cell)then(n,NameKind.cell)else(n,k))=oG fs l:=by
 induction l with
 |nil=>rfl
 |cons p l ih=>
  obtain⟨n,kk⟩:=p;have e1:env.kindOf n=lk n fs:=by rw[xB,←hs];rfl
  rw[List.map_cons,ih,oG,Ht,←e1,hk];refine congrArg (· ::_) ?_;show(if(kk==NameKind.free&&true&&env.kindOf n==some .cell)=true then _ else _)=_;rw[Bool.and_true];induction(kk==NameKind.free&&env.kindOf n==some .cell)using qd<;>rfl
theorem Am:(oG fs l).lookup x=(l.lookup x).map (EL fs x):=by
 induction l with
 |nil=>rfl
 |cons p l ih=>
  rw[oG.eq_2,List.lookup_cons,List.lookup_cons];induction q:x==p.1 using qd with
  |true=>rw[beq_iff_eq.mp q];rfl
  |false=>exact ih
noncomputable def gU(env:Env)(cs:List (Str×Addr))(p:Str×NameKind):List (Str×Addr):=if p.2==.free then(p.1,(env.cells.lookup p.1).getD 0)::cs else cs
theorem GH{α β:Type}(f:α→β→Sem (ForInStep β))(g:β→α→β)(l:List α):(∀x∈l,∀c,f x c=pure (.yield (g c x)))→∀c,forIn l c f=pure (l.foldl g c):=by
 induction l with
 |nil=>exact fun _ _=>rfl
 |cons x l ih=>intro h c;rw[List.forIn_cons,h x qi,pure_bind];exact ih (fun y hy=>h y (qj _ hy)) _
theorem JB(h:∀x,(x,NameKind.free)∈scope.names→∃c,env.cells.lookup x=some c):closureFor scope env=pure (scope.names.foldl (gU env) []):=by
 unfold closureFor;dsimp only;rw[GH _ (gU env) scope.names (fun p hp cs=>by
  obtain⟨n,kk⟩:=p;induction kk using PySem.NameKind.casesOn<;>try rfl
  obtain⟨c,hc⟩:=h n hp;unfold gU cellOf;rw[hc];rfl)]
 rfl
theorem Mp{c:Addr}(hc:env.cells.lookup x=some c){names:List (Str×NameKind)}:∀{acc:List (Str×Addr)},(x,NameKind.free)∈names∨acc.lookup x=some c→(names.foldl (gU env) acc).lookup x=some c:=by
 induction names with
 |nil=>exact fun h=>h.resolve_left qL
 |cons p l ih=>
  intro acc h;refine ih ?_;rw[gU];by_cases q:x=p.1
  ·induction f:p.2==.free using qd with
   |true=>exact .inr (by rw[if_pos rfl,List.lookup_cons,←q,beq_self_eq_true,hc];rfl)
   |false=>exact h.imp (fun h=>(List.mem_cons.mp h).resolve_left fun e=>tf ((beq_iff_eq.mpr (congrArg Prod.snd e).symm:(p.2==.free)=true).symm.trans f)) fun h=>h
  ·exact h.imp (fun h=>(List.mem_cons.mp h).resolve_left fun e=>q (congrArg Prod.fst e)) fun h=>by
    split
    ·rw[List.lookup_cons,beq_eq_false_iff_ne.mpr q];exact h
    ·exact h
theorem Mq{m:ai}{ns:List Str}(e:lk x (gE ns m)=some v):x∈ns:=by
 induction ns with
 |nil=>exact nn e
 |cons n ns ih=>exact CE e (fun q _=>q▸.head _) fun e=>.tail _ (ih e)
section
theorem nh(h:rR fe scope=true):scope.kind=.function∧gI scope.names=true∧(scope.names.map (·.1)).Nodup∧Al fe.scope.names scope.names=true:=
 have h2:=bk (bk h).2;have h3:=bk h2.2
 ⟨Eo (bk h).1,h2.1,Py _▸sJ h3.1,h3.2⟩
theorem Ao(l:av P fe m env I σ n h):relabel scope env=ng fe scope:=by
 unfold relabel ng;rw[GG (fs:=fe.scope.names) (by rw[l.scope]) (by rw[l.scope];exact l.kind)]
theorem CI(l:av P fe m env I σ n h)(x:Str):(compEnvC scope (scope.names.foldl (gU env) []) C env).kindOf x=(scope.names.lookup x).map (EL fe.scope.names x):=by
 show(relabel scope env).names.lookup x=_;rw[Ao l];exact Am
theorem EM(ok:rR fe scope=true)(l:av P fe m env I σ n h){x:Str}(hx:(compEnvC scope (scope.names.foldl (gU env) []) C env).kindOf x=some .cell):
  env.kindOf x=some .cell∧∃c,env.cells.lookup x=some c∧(compEnvC scope (scope.names.foldl (gU env) []) C env).cells.lookup x=some c:=by
 obtain⟨yG,mu,Hu,Mr⟩:=nh ok;rw[CI l]at hx;induction q:scope.names.lookup x using qe with
 |none=>rw[q]at hx;exact ns hx.symm
 |some kk=>
  rw[q]at hx;have hm:=mem_of_lookup q;induction kk using PySem.NameKind.casesOn with
  |cell=>exact absurd rfl (m9 mu _ hm)
  |free=>
   have h2:env.kindOf x=some .cell:=by show env.scope.names.lookup x=_;rw[l.scope];exact CH Mr hm
   exact(by obtain⟨c,_,hc,_⟩:=l.there x h2;exact⟨h2,c,hc,Mp hc (.inl hm)⟩)
  |_=>cases hx
theorem EN(ok:rR fe scope=true)(l:av P fe m env I σ n h)(ob:aF (compEnvC scope (scope.names.foldl (gU env) []) C env) b):b=C∨aF env b:=ob.imp id fun⟨x,hx,hc⟩=>
 (by obtain⟨h2,c,h3,h4⟩:=EM ok l hx;exact .inr ⟨x,h2,h3.trans (h4.symm.trans hc)⟩)
theorem JC{mm:Str→Option Value}(ok:rR fe scope=true)(l:av P fe m env I σ n h)(um:h.Ns C mm)(ap:Apart I σ n C)(hC:¬aF env C):
  av P ⟨ng fe scope,[]⟩ (gE (qV scope.names) m) (compEnvC scope (scope.names.foldl (gU env) []) C env) I σ n h:=by
 have cl:∀{x},(compEnvC scope (scope.names.foldl (gU env) []) C env).kindOf x=some .cell→_:=fun{x} hx=>EM (C:=C) ok l (x:=x) hx;have kd:=CI (C:=C) (scope:=scope) l;have ow:∀{b},aF (compEnvC scope (scope.names.foldl (gU env) []) C env) b→_:=fun{b}=>EN (C:=C) ok l (b:=b);obtain⟨JD,he⟩:∃e,e=compEnvC scope (scope.names.foldl (gU env) []) C env:=⟨_,rfl⟩;have e1:JD.scope=ng fe scope:=he▸Ao l;have e2:JD.locals=C:=he▸rfl;have e3:JD.globals=env.globals:=he▸rfl;have e4:JD.builtins=env.builtins:=he▸rfl;rw[←he]at cl kd ow⊢;clear he;refine⟨e1,(nh ok).1,e3.trans l.glob,e4.trans l.blt,⟨mm,e2.symm▸um,fun x v e hk=> ?_⟩,fun x v e hk=> ?_,fun x hk=> ?_,fun x v e hk=>nn e,fun b ob=> ?_,fun x c hk hc=> ?_,fun x y c hk nE hc L3=> ?_⟩
 ·rw[kd,pP (nh ok).2.2.1 (Mn (Mq e)),Option.map,Ht]at hk;replace hk:=qc hk
  split at hk<;>cases hk
 ·obtain⟨h0,c,h1,h2⟩:=cl hk;exact(by obtain⟨c',y,g1,g2,g3⟩:=l.cell x v (sL e) h0;exact⟨c',y,h2.trans (h1.symm.trans g1),g2,g3⟩)
 ·obtain⟨h0,c,h1,h2⟩:=cl hk;exact(by obtain⟨c',y,g1,g2⟩:=l.there x h0;exact⟨c',y,h2.trans (h1.symm.trans g1),g2⟩)
 ·exact(ow ob).elim (fun q=>q▸ap) (l.apart b)
 ·obtain⟨h0,c',h1,h2⟩:=cl hk;exact fun q=>hC (.inr ⟨x,h0,h1.trans (h2.symm.trans (hc.trans (congrArg some (q.trans e2))))⟩)
 ·obtain⟨h0,c1,h1,h2⟩:=cl hk;obtain⟨h3,c2,h4,h5⟩:=cl nE;exact l.inj x y c h0 h3 (h1.trans (h2.symm.trans hc)) (h4.trans (h5.symm.trans L3))
end
section
theorem Ms(S:aU cx ev){jn:Nat→Heap→Prop}{t eS jz:Expr}{fB:List Expr}{scope:Scope}{pos:Pos}{Z:St→Prop}{RR:Value→Addr→Result→SP}
  (aY:au cx k A bG aZ aX s₁)(bD:av cx.P fe m env bG aZ aX.length s₁.heap)(ok:rR fe scope=true)(RN:ob.isFreed=false)
  (W:Walk cx k A s₁.heap.objs.size (fun i _=>some (di all i)) jn bG aZ aX.length)(c0:jn 0 (s₁.heap.push ob))
  (Es:∀(i:Nat) (s:Shared) (Q:dU) (E:dU),jn i s.heap→Q (.ref s₁.heap.objs.size) s→wpAny cx.M A (pyIter (.ref s₁.heap.objs.size)) Q E s)
  (fin:∀C D I' af st' s',Z st'→aM cx.P (fun _=>False) bG aZ aX.length s₁.heap I' af st' s'.heap→bw s₁ s'→aq I' cx.P af st'.length (.loc aX.length) (.ref D)→Apart I' af st'.length C→s₁.heap.get? C=none→(∃mm,s'.heap.Ns C mm)→RR (.ref D) C (.ok .next) s')
  (g:Good cx.S cx.pre (qU ev k ⟨ng fe scope,[]⟩ (qV scope.names) t eS fB aX.length all (gE (qV scope.names) m) (aX++[.list [] []])) Z):
  wpAny cx.M A (newList []) (fun acc jP=>wpAny cx.M A (newFunctionEnv scope env.globals (scope.names.foldl (gU env) []) [] env.qual none .none (some env)) (fun tM Jx=>
   codeAny cx.M A (.compStart (.ListComp eS [⟨t,jz,fB,0⟩] scope pos) 0 (.ref s₁.heap.objs.size) acc {tM with scope:=relabel scope env}) (RR acc tM.locals) Jx) E jP) E {s₁ with heap:=s₁.heap.push ob}:=by
 obtain⟨yG,mu,Hu,Mr⟩:=nh ok;have bQ:=aM.Rf aY.rel ob;have jk:aM cx.P (fun _=>False) bG aZ aX.length s₁.heap bG (gj aZ aX.length (s₁.heap.push ob).objs.size) (aX++[.list [] []]) ((s₁.heap.push ob).push {cls:=.type "list",data:=.seq ([]:LV).toArray}):=
  bQ.trans (aM.zQ (ao:=.list [] []) (o:={cls:=.type "list",data:=.seq ([]:LV).toArray}) bQ.rel rfl (.list (pre:=[]) (xs:=[]) 0 (by exact nz) .nil))
 refine wpAny_newList (wpAny_newFunctionEnv (m9 mu) (by intro y hy;cases hy) (fun h' um CG=> ?_) yG);dsimp only at um CG⊢;generalize RW:(s₁.heap.push ob).push {cls:=.type "list",dict:=none,data:=.seq ([]:LV).toArray}=H3 at um CG⊢;have jk:aM cx.P (fun _=>False) bG aZ aX.length s₁.heap bG (gj aZ aX.length (s₁.heap.push ob).objs.size) (aX++[.list [] []]) H3:=RW▸jk;have kp:∀b o,H3.get? b=some o→h'.get? b=some o:=fun b o e=>(CG.2 b (Nat.ne_of_lt (Heap.lt_size e))).trans (Heap.get?_push_of_some _ e);have wF:=jk.trans (aM.grow jk.rel kp);have aaX:∀tk,au cx k A bG (gj aZ aX.length (s₁.heap.push ob).objs.size) (aX++[.list [] []]) {s₁ with heap:=h',toks:=tk}:=fun tk=>⟨aY.fit,aY.base,wF.rel⟩;have uX:=bD.ext jk;have Wf:=bD.ext wF;have apC:Apart bG (gj aZ aX.length (s₁.heap.push ob).objs.size) (aX++[AO.list [] []]).length H3.objs.size:=⟨jk.rel.OJ,fun j hj z=>by
  obtain⟨o,ho⟩:=jk.rel.live hj;rw[z,dD]at ho;exact nn ho⟩
 have Mt:¬aF env H3.objs.size:=fun q=>by
  obtain⟨o,ho⟩:=uX.live _ q;rw[dD]at ho;exact nn ho
 have lc:=JC ok Wf um apC Mt;have itC:s₁.heap.objs.size≠H3.objs.size:=by rw[←RW,Heap.size_push,Heap.size_push];lia
 have Jy:¬aF (compEnvC scope (scope.names.foldl (gU env) []) H3.objs.size env) s₁.heap.objs.size:=fun q=>by
  rcases EN ok Wf q with q|q
  ·exact itC q
  ·obtain⟨o,ho⟩:=bD.live _ q;rw[dD]at ho;exact nn ho
 have itA:∃o,(s₁.heap.push ob).get? s₁.heap.objs.size=some o:=⟨ob,Heap.get?_push_size _ RN⟩;have apI:Apart bG (gj aZ aX.length (s₁.heap.push ob).objs.size) (aX++[AO.list [] []]).length s₁.heap.objs.size:=⟨aY.rel.OJ,fun j hj z=>by
  by_cases q:j<aX.length
  ·rw[jx _ q]at z;obtain⟨o,ho⟩:=aY.rel.live q;rw[z,dD]at ho;exact nn ho
  ·have:j=aX.length:=by simp at hj;lia
   rw[this,eG,Heap.size_push]at z;exact absurd z (Nat.succ_ne_self _)⟩
 have cu:jn 0 h':=W.BE c0 fun o e=>kp _ _ (RW▸Heap.get?_push_of_some _ e);have Dd:s₁.heap.get? H3.objs.size=none:=by
  induction q:s₁.heap.get? H3.objs.size using qe with
  |none=>rfl
  |some o=>
   have:=Heap.lt_size q;rw[←RW,Heap.size_push,Heap.size_push]at this;exact absurd this (Nat.not_lt.mpr (qB (qM _) (qM _)))
 have loop:∀tk,codeAny cx.M A (.compLoop (.ListComp eS [⟨t,jz,fB,0⟩] scope pos) 0 (.ref s₁.heap.objs.size) (.ref (s₁.heap.push ob).objs.size) (compEnvC scope (scope.names.foldl (gU env) []) H3.objs.size env))
   (RR (.ref (s₁.heap.push ob).objs.size) H3.objs.size) {s₁ with heap:=h',toks:=tk}:=fun tk=>
  Mm S (L:=aX.length) (fun I' af st' s' hz xx sm hd hl ap hn=>fin _ _ I' af st' s' hz (xx.strip fun b q=>by rw[q];exact Dd) sm (by rw[←hd];exact .loc _ hl) ap Dd hn)
   aY.base (aaX tk) W (dD _) Jy wF ⟨rfl,rfl,rfl⟩ cu lc apI (by simp) (eG ..) g
 exact codeAny_compStart_list (loop _) (Es 0 _ _ _ cu (loop _))
noncomputable def sN(ev:Ev)(k:Nat)(fe:FE)(t eS:Expr)(fB:List Expr)(L:Nat)(v:V)(m:ai)(st:St):ig:=cz (qT fe t v m) fun m'=>
 (Dt ev k fe m' st fB).bind fun b=>match b.1 with
  |true=>(ev.e k fe m' b.2 eS).bind fun p=>(xE p.2 L p.1).bind fun st'=>.ok ((.next,m'),st')
  |false=>.ok ((.next,m'),b.2)
theorem Aq:∀{m:ai} {st:St},
  Good S pre (uK (sN ev k fe t eS fB L) (gE names) vs m st) (fun p=>Q p.2)→Good S pre (qU ev k fe names t eS fB L vs m st) Q:=by
 induction vs with
 |nil=>exact fun g=>g
 |cons v vs ih=>
  intro m st g;refine aN (Good.bind (r:=sN ev k fe t eS fB L v m st) g) fun m' e g=> ?_;show Good S pre (cz (qT fe t v m) _) Q;rw[e];refine m5.mpr (Good.mono (fun p hp=> ?_) (Good.bind g));obtain⟨b,aX⟩:=p;induction b using qd with
  |true=>
   refine m5.mpr (Good.mono (fun q hq=> ?_) (Good.bind hp));have Ar:=Good.bind hq;exact m5.mpr (Good.mono (fun st' hs=>ih hs) Ar)
  |false=>exact ih hp
noncomputable def Hv(ev:Ev)(k:Nat)(fe:FE)(names:List Str)(t eS:Expr)(fB:List Expr)(L:Nat)(v:V)(m:ai)(st:St):aA St:=match v with
 |.lst vs=>.loop (sN ev k fe t eS fB L) (gE names) vs m st fun q=>.ok q.2
 |.vI n=>.need (n<1000) (.loop (sN ev k fe t eS fB L) (gE names) (intsFrom 0 n) m st fun q=>.ok q.2)
 |.tup vs=>qU ev k fe names t eS fB L vs m st
 |_=>.bad
theorem JE{t eS:Expr}{fB:List Expr}{L:Nat}{Q:St→Prop}{v:V}{m:ai}{st:St}
  (g:Good S pre (Hv ev k fe names t eS fB L v m st) Q):∃vs,Jp v=some vs∧BG v∧Good S pre (qU ev k fe names t eS fB L vs m st) Q:=by
 induction v using V.casesOn with
 |lst vs=>exact⟨_,rfl,trivial,Aq (pW g)⟩
 |vI n=>exact⟨_,rfl,g.1,Aq (pW g.2)⟩
 |tup vs=>exact⟨_,rfl,trivial,g⟩
 |_=>exact g.elim
noncomputable def Pz{α:Type}(l:List α):Option α:=match l with
 |[]=>none
 |x::l=>fH (Ai l) (some x)
theorem Hw{α:Type}{l:List α}{x:α}(h:Pz l=some x):l=[x]:=by
 induction l using qh with
 |nil=>exact nn h
 |cons y l=>
  induction l using qh with
  |nil=>exact congrArg (· ::[]) (qc h)
  |cons=>exact nn h
noncomputable def As(ev:Ev)(k:Nat)(fe:FE)(m:ai)(st:St)(eS:Expr)(gens:List Comprehension)(scope:Scope):aA (V×St):=cz (Pz gens) fun g=>dR (rK g.4 0) (dR (rR fe scope) (dR (EG g.2)
 ((ev.e k fe m st g.2).bind fun p=>(Hv ev k ⟨ng fe scope,[]⟩ (qV scope.names) g.1 eS g.3 p.2.length p.1 (gE (qV scope.names) m) (p.2++[.list [] []])).bind fun st'=>.ok (.loc p.2.length,st'))))
variable{st:St}
theorem JF{P:Params}{n:Nat}{h:Heap}{scope:Scope}(ok:rR fe scope=true)(l:av P fe m env I σ n h):closureFor scope env=pure (scope.names.foldl (gU env) []):=by
 obtain⟨yG,mu,Hu,Mr⟩:=nh ok;refine JB fun x hx=> ?_;have h2:=CH Mr hx;have h3:env.kindOf x=some .cell:=by show env.scope.names.lookup x=_;rw[l.scope];exact h2
 obtain⟨c,_,h4,_⟩:=l.there x h3;exact⟨c,h4⟩
theorem EP{eS:Expr}{gens:List Comprehension}{scope:Scope}{pos:Pos}{use:Option (Value→Sem Unit)}{Q:dU}{R:V×St→Prop}(S:aU cx ev)(H:au cx k A I σ st s)(l:av cx.P fe m env I σ st.length s.heap)
  (g:Good cx.S cx.pre (As ev k fe m st eS gens scope) R)
  (h:∀bG aZ aX s₁ C D I' af st' s',aM cx.P (fun _=>False) I σ st.length s.heap bG aZ aX s₁.heap→bw s s₁→au cx k A bG aZ aX s₁→av cx.P fe m env bG aZ aX.length s₁.heap→R (.loc aX.length,st')→
   aM cx.P (fun _=>False) bG aZ aX.length s₁.heap I' af st' s'.heap→bw s₁ s'→aq I' cx.P af st'.length (.loc aX.length) (.ref D)→Apart I' af st'.length C→s₁.heap.get? C=none→(∃mm,s'.heap.Ns C mm)→compPost cx.M A E use Q (.ref D) C (.ok .next) s'):
  wpAny cx.M A (comprehension (.ListComp eS gens scope pos) scope env (firstIterPos gens pos) (newList []) (firstAsync gens) (firstIter gens env) use) Q E s:=by
 refine aN g fun c hc g1=> ?_;obtain⟨t,jz,fB,a⟩:=c;obtain⟨ha,g2⟩:=bA g1;obtain⟨ok,g3⟩:=bA g2;obtain⟨um,g4⟩:=bA g3;clear g g1 g2 g3;have ha:a=0:=beq_iff_eq.mp ((pe a 0).trans ha);subst ha;rw[Hw hc];obtain⟨yG,mu,Hu,Mr⟩:=nh ok;refine wpAny_comprehension_free (use:=use) rfl (fun x=>vL um x) (JF ok l) yG (fun x hx hl=>pP Hu (by obtain⟨a,b⟩:=x;cases hl;exact hx)) ?_;refine S.ee H l g4 fun bG aZ aX s₁ ji iX aV aO aY bD b9 aQ=> ?_;obtain⟨vs,hv,hp,aQ⟩:=JE (Good.bind aQ);exact Mj aY b9 hv hp fun ob jn RN W c0 Es=>Ms S (RR:=fun acc C=>compPost cx.M A E use Q acc C) aY bD ok RN W c0 Es (fun C D I' af st' s' hz x' Cw rD ap dC hn=>h _ _ _ _ C D I' af st' s' aV aO aY bD hz x' Cw rD ap dC hn) aQ
theorem TZ(S:aU cx ev)(H:au cx k A I σ st s)(l:av cx.P fe m env I σ st.length s.heap)
  (g:Good cx.S cx.pre (As ev k fe m st eS gens scope) (EV cx I σ st s Q)):wpAny cx.M A (eval (.ListComp eS gens scope pos) env) Q E s:=by
 rw[eval_ListComp];refine EP (use:=none) S H l g fun bG aZ aX s₁ C D I' af st' s' aV aO aY bD hz x' Cw rD ap dC hn=> ?_;obtain⟨mm,hn⟩:=hn;refine⟨mm,hn,fun h' hs=>EV.into (p:=(.loc aX.length,st')) hz aV aO I' af _ {s' with heap:=h'} (aM.last (X:=fun _=>False) (x'.weaken fun b q=>q.elim) (h₂:=h') (fun b o hb e=>(hs.2 b hb).trans e) dC ap) Cw rD⟩
end
noncomputable def BJ(o:Option Bool):Bool:=match o with
 |some b=>b
 |none=>false
theorem Mu(h:BJ o=true):o=some true:=by
 induction o using qe with
 |none=>exact ft h
 |some b=>induction b using qd<;>first|rfl|exact ft h
noncomputable def Wg(v:Expr):Option (Expr×List Comprehension×Scope):=match v with
 |.ListComp e gs sc _=>some (e,gs,sc)
 |_=>none
theorem Ua(h:Wg v=some c):∃p,v=.ListComp c.1 c.2.1 c.2.2 p:=by
 induction v using PySem.Expr.casesOn<;>first|exact nn h|(obtain rfl:=qc h;exact⟨_,rfl⟩)
noncomputable def Mv(ev:Ev)(k:Nat)(fe:FE)(m:ai)(st:St)(x:Str)(v:Expr):ig:=cz (Wg v) fun c=>dR (rJ fe x) ((As ev k fe m st c.1 c.2.1 c.2.2).bind fun p=>.ok ((.next,put x p.1 m),p.2))
noncomputable def yH(cx:Cx)(ev:Ev)(k:Nat)(fe:FE)(m:ai)(st:St)(ts:List Expr)(v:Expr)(pos:Pos):ig:=cz (Pz ts) fun t=>match Ag t with
 |some x=>match BJ (nJ (swapsWithSole [t] v pos.line (iJ fe.scope)))with
  |true=>Mv ev k fe m st x v
  |false=>zq cx ev k fe m st [t] v pos
 |none=>zq cx ev k fe m st [t] v pos
section
variable{st:St}
theorem av.Mw(hn:h.Ns C mm)(x:aM P (aF env) I σ n h I' af st' h')(hC:¬aF env C)(ap:Apart I σ n C):h'.Ns C mm:=by
 obtain⟨o,es,ep,ho,r⟩:=hn;exact⟨o,es,ep,x.keep C o ho hC ap.2,r⟩
theorem Dp(S:aU cx ev)(H:au cx k A I σ st s)(l:av cx.P fe m env I σ st.length s.heap)(hs:swapsWithSole [.Name x px] v pos.line env=pure true)
  (g:Good cx.S cx.pre (Mv ev k fe m st x v) (EO cx fe env I σ st s Q)):wpAny cx.M A (exec (.Assign [.Name x px] v pos) env) Q E s:=by
 refine aN g fun c hc g1=> ?_;obtain⟨q,hv⟩:=Ua hc;obtain⟨h2,g2⟩:=bA g1;rw[exec_Assign_arm];refine wpAny_bind (wpAny_standAt ?_);rw[hs];refine wpAny_bind (wpAny_pure ?_);rw[if_pos rfl,hv];have ee:evalThenUse (.ListComp c.1 c.2.1 c.2.2 q) env (fun v=>assignAll v ((assignEach [.Name x px] env).map (·.2)))=
  (comprehension (.ListComp c.1 c.2.1 c.2.2 q) c.2.2 env (firstIterPos c.2.1 q) (newList []) (firstAsync c.2.1) (firstIter c.2.1 env) (some fun v=>assignAll v ((assignEach [.Name x px] env).map (·.2)))>>=fun _=>pure ()):=rfl
 rw[ee];refine wpAny_bind (wpAny_bind ?_);refine EP S H l (Good.bind g2) fun bG aZ aX s₁ C D I' af st' s' aV aO aY bD hz x' Cw rD ap dC hn=> ?_;obtain⟨mm,hn⟩:=hn;have Mt:¬aF env C:=fun q=>by
  obtain⟨o,ho⟩:=bD.live _ q;exact nn (dC.symm.trans ho)
 show wpAny cx.M A (assign (.Name x px) env (.ref D)) _ E s';refine wpAny_assign_Name (pY (aY.go x') (bD.ext x') h2 rD fun vY Wh aaY Wi=>⟨mm,av.Mw hn Wh Mt ap,fun h' CG=>wpAny_pure (wpAny_pure ?_)⟩);have kp:∀b o,b≠C→vY.heap.get? b=some o→h'.get? b=some o:=fun b o hb e=>(CG.2 b hb).trans e;exact EO.into (p:=((.next,_),st')) hz aV aO I' af _ {vY with heap:=h'} (aM.last (X:=aF env) (((x'.weaken (Y:=aF env) fun _ q=>q.elim).trans Wh).weaken fun b q=>.inl q) kp dC ap) (Cw.trans aaY)
  ⟨.next,Wi.Ji kp Mt fun v ⟨o',h1,h2⟩=>by
   obtain⟨o,es,ep,ho,hd,_⟩:=av.Mw hn Wh Mt ap;rw[ho]at h1;obtain rfl:=qc h1;rw[hd]at h2;cases h2⟩
theorem ER(S:aU cx ev)(H:au cx k A I σ st s)(l:av cx.P fe m env I σ st.length s.heap)(g:Good cx.S cx.pre (yH cx ev k fe m st ts v pos) (EO cx fe env I σ st s Q)):
  wpAny cx.M A (exec (.Assign ts v pos) env) Q E s:=by
 refine aN g fun t ht g=> ?_;rw[Hw ht];induction hx:Ag t using qe with
 |none=>rw[hx]at g;exact CD S H l g
 |some x=>
  rw[hx]at g;induction hs:BJ (nJ (swapsWithSole [t] v pos.line (iJ fe.scope)))using qd with
  |false=>dsimp only at g;rw[hs]at g;exact CD S H l g
  |true=>
   dsimp only at g;rw[hs]at g;obtain⟨p,rfl⟩:=CB hx;exact Dp S H l (by rw[rP l];exact kY (Mu hs)) g
end
noncomputable def ES(e:Option Expr):Option Str:=cD e fun e=>match e with
 |.Constant c _ _=>match c with
  |.str x=>some x
  |_=>none
 |_=>none
theorem ET(h:ES e=some x):∃kk p,e=some (.Constant (.str x) kk p):=aK h fun e he h=>by
 rw[he];induction e using PySem.Expr.casesOn with
 |Constant c=>induction c using PySem.Const.casesOn with|str=>obtain rfl:=qc h;exact⟨_,_,rfl⟩|_=>exact nn h
 |_=>exact nn h
noncomputable def mw{α:Type}(l:List α):Option (α×List α):=match l with
 |[]=>none
 |x::l=>some (x,l)
theorem iF{α:Type}{l:List α}{p:α×List α}(h:mw l=some p):l=p.1::p.2:=by
 induction l using qh with
 |nil=>exact nn h
 |cons x l=>rw[←qc h]
noncomputable def BK(ev:Ev)(k:Nat)(fe:FE)(m:ai):List (Option Expr)→List Expr→St→aA (ai×St)
 |[],vs,st=>dR (eu vs) (.ok ([],st))
 |e::ks,vs,st=>cz (mw vs) fun v=>cz (ES e) fun x=>(ev.e k fe m st v.1).bind fun p=>(BK ev k fe m ks v.2 p.2).bind fun q=>.ok ((x,p.1)::q.1,q.2)
noncomputable def pairsOk:List (Option Expr)→List Expr→Option Unit
 |[],vs=>fH (eu vs) (some ())
 |e::ks,vs=>cD (mw vs) fun v=>cD (ES e) fun _=>pairsOk ks v.2
noncomputable def putAll:ai→ai→ai
 |[],acc=>acc
 |p::l,acc=>putAll l (put p.1 p.2 acc)
noncomputable def Hx(ev:Ev)(k:Nat)(fe:FE)(m:ai)(st:St)(ks:List (Option Expr))(vs:List Expr):aA (V×St):=dR (Nat.blt (len ks) 15) (dR (i7 (eu ks)) (cz (pairsOk ks vs) fun _=>
 (BK ev k fe m ks vs (st++[.dict []])).bind fun p=>cz (dictAt p.2 st.length) fun fs=>dR (eu fs) (dR (Nat.blt (len p.1) 300) (.ok (.loc st.length,cF p.2 st.length (.dict (putAll p.1 [])))))))
def PA(R:V→Value→Prop):ai→List (Value×Value)→Prop
 |[],ys=>ys=[]
 |p::ps,ys=>∃t y r,ys=(.str p.1 t,y)::r∧R p.2 y∧PA R ps r
noncomputable def rS(pos:Pos)(env:Env):List (Option Expr)→List Expr→List (Sem Value×Sem Value)
 |some k::ks,v::vs=>(eval k env,(do let x ←eval v env;standAt pos;pure x))::rS pos env ks vs
 |_,_=>[]
section
variable{cx:Cx}
theorem GI{pos:Pos}{ks:List (Option Expr)}:∀{vs:List Expr} {u:Unit},pairsOk ks vs=some u→
  (evalEachOpt ks env).zip ((evalEach vs env).map fun v=>do let x ←v;standAt pos;pure x)=(rS pos env ks vs).map (fun p=>(some p.1,p.2))∧(rS pos env ks vs).length=ks.length:=by
 induction ks with
 |nil=>intro vs u g;rw[cI (cQ g)];exact⟨rfl,rfl⟩
 |cons e ks ih=>
  intro vs u g;refine aK g fun v hv g=>aK g fun x hx g=> ?_;obtain⟨kk,p,rfl⟩:=ET hx;rw[iF hv];exact⟨congrArg (List.cons _) (ih g).1,congrArg Nat.succ (ih g).2⟩
theorem PB{pos:Pos}(S:aU cx ev){ks:List (Option Expr)}:∀{vs:List Expr} {I:IM} {σ:Nat→Addr} {st:St} {s:Shared} {α:Type} {R:α→Prop} {f:ai×St→aA α} {Q:List (Value×Value)→SP},
  au cx k A I σ st s→av cx.P fe m env I σ st.length s.heap→Good cx.S cx.pre ((BK ev k fe m ks vs st).bind f) R→
  (∀I' af st' s' ps ys,aM cx.P (fun _=>False) I σ st.length s.heap I' af st' s'.heap→bw s s'→au cx k A I' af st' s'→PA (aq I' cx.P af st'.length) ps ys→Good cx.S cx.pre (f (ps,st')) R→Q ys s')→
  wpAny cx.M A (evalPairs (rS pos env ks vs)) Q E s:=by
 induction ks with
 |nil=>
  intro vs I σ st s α R f Q H l g h;obtain⟨h1,g⟩:=bA (Good.bind g);rw[cI h1];exact wpAny_pure (h I σ st s [] [] (aM.refl H.rel) (bw.refl s) H rfl g)
 |cons e ks ih=>
  intro vs I σ st s α R f Q H l g h;refine aN (Good.bind g) fun q hq g=>aN g fun x hx g=> ?_;obtain⟨kk,p,rfl⟩:=ET hx;rw[iF hq];refine wpAny_bind (PySem.wpAny_Constant_str (wpAny_bind (wpAny_holding (wpAny_bind (S.ee (s:={s with toks:=s.toks+1}) ⟨H.fit,H.base,H.rel⟩ l g fun bG aZ aX s₁ u y aV aO aY bD b9 aQ=>wpAny_bind (wpAny_standAt (wpAny_pure ?_)))))));exact wpAny_bind (wpAny_holding (ih aY bD aQ fun dj bH bW br ps ys bQ cK cP jO fL=>wpAny_pure (h dj bH bW br ((x,u)::ps) _ (aV.trans bQ) (aO.trans cK) cP ⟨_,_,_,rfl,b9.mono bQ.le,jO⟩ fL)))
theorem Ub:(put x v l).length≤l.length+1:=by
 induction l with
 |nil=>exact qf _
 |cons p l ih=>
  induction q:seq x p.1 using qd with
  |true=>rw[xC q];exact qM _
  |false=>rw[rI q];exact Nat.succ_le_succ ih
theorem JG{st:St}(h:L<st.length):dictAt (cF st L (.dict fs)) L=some fs:=by
 rw[dictAt,gH,eH,List.getElem?_set_self h];rfl
theorem set_set{st:St}:cF (cF st L a) L b=cF st L b:=by rw[eH,eH,eH,List.set_set]
theorem BL{st:St}:(cF st L a).length=st.length:=by rw[eH,List.length_set]
theorem PC{st:St}(e:dictAt st L=some fs):cF st L (.dict fs)=st:=by
 obtain⟨_,hg⟩:=List.getElem?_eq_some_iff.mp (o9 e);rw[eH,←hg];exact List.set_getElem_self _
theorem PD{I:IM}{σ:Nat→Addr}(hL:L<n):∀{ys:List (Value×Value)} {fs:ai} {st:St} {s:Shared} {Q:PUnit→SP},cG cx.P I σ st s.heap→PA (aq I cx.P σ n) ps ys→st.length=n→dictAt st L=some fs→fs.length+ps.length<400→
  (∀s',aM cx.P (fun _=>False) I σ n s.heap I σ (cF st L (.dict (putAll ps fs))) s'.heap→bw s s'→Q ⟨⟩ s')→wpAny cx.M A (storeAll (σ L) ys) Q E s:=by
 induction ps with
 |nil=>
  intro ys fs st s Q r rp hn e hl h;rw[rp,storeAll,List.forIn_nil];exact wpAny_pure (h s (by show aM _ _ _ _ _ _ _ _ (cF st L (.dict fs)) _;rw[PC e,←hn];exact aM.refl r) (bw.refl s))
 |cons p ps ih=>
  intro ys fs st s Q r rp hn e hl h;obtain⟨t,y,ys,rfl,hv,rp⟩:=rp;rw[List.length_cons]at hl;have pl:=Ub (x:=p.1) (v:=p.2) (l:=fs);rw[storeAll,List.forIn_cons];refine wpAny_bind (wpAny_bind (D0 r (hn▸hv) e (by lia) fun s₁ aV aO=>wpAny_pure ?_));rw[hn]at aV;refine ih aV.rel rp (BL.trans hn) (JG (hn▸hL)) (by lia) fun br bQ cK=>h br ?_ (aO.trans cK);have x:=aV.trans (by rw[BL,hn];exact bQ);rw[set_set]at x;exact x
theorem PE{σ:Nat→Addr}{st:St}{s:Shared}{Q:dU}(S:aU cx ev)(H:au cx k A I σ st s)(l:av cx.P fe m env I σ st.length s.heap)
  (g:Good cx.S cx.pre (Hx ev k fe m st ks vs) (EV cx I σ st s Q)):wpAny cx.M A (eval (.Dict ks vs pos) env) Q E s:=by
 obtain⟨kX,g1⟩:=bA g;obtain⟨aaZ,g2⟩:=bA g1;refine aN g2 fun u bX g=> ?_;clear g1 g2;obtain⟨h1,h2⟩:=GI (env:=env) (pos:=pos) bX;have hl:=lJ kX;rw[arm_eval_Dict,h1,dictDisplay_pairs _ (by
  intro z;rw[z]at h2;induction ks using qh with
  |nil=>exact ft aaZ
  |cons a b=>exact absurd h2.symm (qS _)) (by rw[h2];exact vV ‹_›)]
 refine wpAny_bind (wpAny_standAt (wpAny_bind (wpAny_subDict_any (by rw[h2];exact qK ‹_›) ?_)));have aV:=aM.zQ (ao:=.dict []) (o:={cls:=.type "dict",data:=.dict #[]}) H.rel rfl (.dict (es:=[]) 0 .nil);refine PB S (s:={s with heap:=s.heap.push {cls:=.type "dict",data:=.dict #[]}}) ⟨H.fit,H.base,aV.rel⟩ (l.ext aV) g fun dj bH bW br ps ys bQ cK cP jO fL=> ?_;refine aN fL fun fs CJ fL=> ?_;obtain⟨hf,ED⟩:=bA fL;obtain⟨RX,EE⟩:=bA ED;have RX:=lJ RX;have hL:st.length<bW.length:=(List.getElem?_eq_some_iff.mp (o9 CJ)).1;rw[←show bH st.length=s.heap.objs.size from(bQ.le.s st.length (by simp)).trans (eG ..)];rw[cI hf]at CJ;exact PD hL cP.rel jO rfl CJ (by rw[List.length_nil];lia) fun jP jk p9=>wpAny_pure (EE dj bH _ jP ((aV.trans bQ).trans jk) (cK.trans p9) (.loc _ (by rw[BL];exact hL)))
noncomputable def RY(ev:Ev)(k:Nat)(fe:FE)(m:ai)(st:St)(body:List Stmt)(hs:List ExceptHandler)(jA JH:List Stmt):ig:=dR (i7 (eu hs)) (dR (eu jA) (dR (eu JH) (ev.b k fe m st body)))
theorem Wj{I:IM}{σ:Nat→Addr}{st:St}{s:Shared}{Q:Flow→SP}(S:aU cx ev)(H:au cx k A I σ st s)(l:av cx.P fe m env I σ st.length s.heap)
  (g:Good cx.S cx.pre (RY ev k fe m st body hs jA JH) (EO cx fe env I σ st s Q)):wpAny cx.M A (exec (.Try body hs jA JH pos) env) Q E s:=by
 obtain⟨q1,g1⟩:=bA g;obtain⟨q2,g2⟩:=bA g1;obtain⟨q3,g3⟩:=bA g2;clear g g1 g2;rw[cI q2,cI q3];induction hs using qh with
 |nil=>exact ft q1
 |cons=>
  refine wpAny_Try_except (S.b H l (Good.mono (fun p gp I' af f s' x sm ro=> ?_) g3));have q:=gp I' af f s' x sm ro;induction f using PySem.Flow.casesOn<;>first|exact wpAny_execs_nil q|exact q
end
noncomputable def Wk:Option Bool→Value→Bool
 |none,.none=>true
 |some b,.bool c=>b==c
 |_,_=>false
noncomputable def sO:Option Bool→Int
 |none=>0xFCA86420
 |some true=>1
 |some false=>0
theorem lq(h:Wk k v=true):(k=none∧v=.none)∨∃b,k=some b∧v=.bool b:=by
 induction k using qe with
 |none=>induction v using PySem.Value.casesOn<;>first|exact .inl ⟨rfl,rfl⟩|exact ft h
 |some b=>
  induction v using PySem.Value.casesOn<;>try (exact ft h;done)
  rename_i c
  exact .inr ⟨b,rfl,by rw[beq_iff_eq.mp (show(b==c)=true from h)]⟩
section
theorem Mx(h:Q 0xFCA86420 {s with toks:=s.toks+1}):wpAny (model prog w) A (pyHash .none) Q E s:=by
 have hT:s.TypeIs .none "NoneType":=rfl;unfold pyHash;have hv:[Value.none].any Value.onHeap=false:=rfl;refine wpAny_bind ?_;rw[cRoomFor,if_neg (by rw[hv];exact qD)];refine wpAny_pure ?_;refine wpAny_bind (wpAny_specialOf hT F.slot_NoneType_hash.lookup ?_);show wpAny _ _ (if(some (Value.builtin "NoneType.__hash__")==some Value.none)=true then _ else _) Q E s;rw[if_neg (by rw[beq_builtin_none];exact qD)];refine wpAny_bind (wpAny_specialOf hT F.slot_NoneType_hash.lookup ?_);show wpAny _ _ (callSpecialIfBoundUnlessNone? .none "__hash__" _>>=_) Q E s;refine wpAny_bind (wpAny_callSpecialIfBoundUnlessNone?_slot hT F.slot_NoneType_hash
  (wpAny_call_entry F.slot_NoneType_hash hT F.entry_NoneType_hash
   (show wpAny _ _ (do ret (←mkInt 0xFCA86420)) _ _ s from wpAny_ret_mkInt ?_) (F.args_NoneType_hash_1 _)))
 show wpAny _ _ (if(decide (-(2:Int)^63≤0xFCA86420)&&decide ((0xFCA86420:Int)<2^63))=true then _ else _) Q E _;rw[if_pos (by decide)];exact wpAny_pure h
theorem My(h:Q (sO (some b)) {s with toks:=s.toks+1}):wpAny (model prog w) A (pyHash (.bool b)) Q E s:=by
 have hT:s.TypeIs (.bool b) "bool":=rfl;have key:∀{Q:dU} {E:dU},Q (.int (sO (some b)) s.toks) {s with toks:=s.toks+1}→wpAny (model prog w) A.in1 (Builtin.«int.__hash__» ⟨[.bool b],[]⟩) (fun fin s'=>∃v,fin=Fin.done (Flow.ret v)∧Q v s') E s:=fun{Q E} hq=>by
  induction b using qd with
  |true=>exact(show wpAny _ _ (do ret (←mkInt 1)) _ _ s from wpAny_ret_mkInt hq)
  |false=>exact(show wpAny _ _ (do ret (←mkInt 0)) _ _ s from wpAny_ret_mkInt hq)
 unfold pyHash;have hv:[Value.bool b].any Value.onHeap=false:=rfl;refine wpAny_bind ?_;rw[cRoomFor,if_neg (by rw[hv];exact qD)];refine wpAny_pure ?_;refine wpAny_bind (wpAny_specialOf hT F.slot_bool_hash.lookup ?_);show wpAny _ _ (if(some (Value.builtin "int.__hash__")==some Value.none)=true then _ else _) Q E s;rw[if_neg (by rw[beq_builtin_none];exact qD)];refine wpAny_bind (wpAny_specialOf hT F.slot_bool_hash.lookup ?_);show wpAny _ _ (callSpecialIfBoundUnlessNone? (.bool b) "__hash__" _>>=_) Q E s;refine wpAny_bind (wpAny_callSpecialIfBoundUnlessNone?_slot hT F.slot_bool_hash
  (wpAny_call_entry F.slot_bool_hash hT entry_int_hash
   (key ?_) (args_int_hash _)))
 show wpAny _ _ (if(decide (-(2:Int)^63≤sO (some b))&&decide (sO (some b)<2^63))=true then _ else _) Q E _;rw[if_pos (by induction b using qd<;>decide)]
 refine wpAny_pure ?_;have e:(if(sO (some b)== -1)=true then-2 else sO (some b))=sO (some b):=by induction b using qd<;>rfl
 rw[e];exact h
end
noncomputable def RZ(prog:Program)(w:World):KeyKind prog w (Option Bool)where
 is:=Wk
 hash:=sO
 inj:=fun v a b ha hb=>by
  rcases lq ha with⟨rfl,rfl⟩|⟨x,rfl,rfl⟩<;>rcases lq hb with⟨rfl,e⟩|⟨y,rfl,e⟩<;>first|rfl|(cases e;done)|(cases e;rfl)
 byValue:=fun k v h=>by rcases lq h with⟨rfl,rfl⟩|⟨x,rfl,rfl⟩<;>rfl
 pyHash:=fun hv h=>by
  rcases lq hv with⟨rfl,rfl⟩|⟨x,rfl,rfl⟩
  ·exact Mx h
  ·exact My h
 eqBool:=fun{A E s a b u v Q} hu hv h=>by
  rcases lq hu with⟨rfl,rfl⟩|⟨x,rfl,rfl⟩<;>rcases lq hv with⟨rfl,rfl⟩|⟨y,rfl,rfl⟩
  ·exact EqAt.same _ _ _ _ _ h
  ·exact EqAt.none_bool _ _ _ _ _ h
  ·exact EqAt.bool_none _ _ _ _ _ h
  ·refine EqAt.bool_bool _ _ _ _ _ _ ?_;have e:(x==y)=decide (some x=some y):=by induction x using qd<;>induction y using qd<;>rfl
   rw[e];exact h
 «strs»:=fun k x t v h=>by rcases lq h with⟨_,e⟩|⟨_,_,e⟩<;>cases e
noncomputable def PF(o:Option Expr):Option (Option Bool):=cD o fun e=>match e with
 |.Constant c _ _=>match c with
  |.none=>some none
  |.bool b=>some (some b)
  |_=>none
 |_=>none
theorem BN(h:PF o=some k):∃a b,o=some (.Constant (match k with|none=>.none|some x=>.bool x) a b):=aK h fun e he h=>by
 rw[he];induction e using PySem.Expr.casesOn with
 |Constant c=>
  induction c using PySem.Const.casesOn with
  |none=>rw[←qc h];exact⟨_,_,rfl⟩
  |bool b=>rw[←qc h];exact⟨_,_,rfl⟩
  |_=>exact nn h
 |_=>exact nn h
noncomputable def zw(e:Expr):Option V:=match e with
 |.Constant c _ _=>match c with
  |.int i=>some (.int i)
  |.str x=>some (.str x)
  |_=>none
 |_=>none
noncomputable def vals3(vs:List Expr):Option (V×V×V):=cD (mw vs) fun a=>cD (zw a.1) fun x=>cD (mw a.2) fun b=>cD (zw b.1) fun y=>cD (mw b.2) fun c=>cD (zw c.1) fun z=>fH (eu c.2) (some (x,y,z))
theorem PG(h:vals3 vs=some p):∃a b c,vs=[a,b,c]∧zw a=some p.1∧zw b=some p.2.1∧zw c=some p.2.2:=
 aK h fun a ha h=>aK h fun x hx h=>aK h fun b hb h=>aK h fun y hy h=>aK h fun c hc h=>aK h fun z hz h=>by
  rw[←qc (cW h)];exact⟨a.1,b.1,c.1,by rw[iF ha,iF hb,iF hc,cI (cQ h)],hx,hy,hz⟩
noncomputable def Wl(p:V×V×V)(v:V):Option V:=match v with
 |.bool x=>match x with
  |true=>some p.1
  |false=>some p.2.1
 |.none=>some p.2.2
 |_=>none
noncomputable def Wm(ks:List (Option Expr)):Bool:=decide (ks.map PF=[some (some true),some (some false),some none])
noncomputable def Mz(ev:Ev)(k:Nat)(fe:FE)(m:ai)(st:St)(ks:List (Option Expr))(vs:List Expr)(i:Expr):aA (V×St):=dR (Wm ks) (cz (vals3 vs) fun p=>(ev.e k fe m st i).bind fun q=>cz (Wl p q.1) fun u=>.ok (u,q.2))
section
variable{cx:Cx}{st:St}
theorem BO(h:zw e=some v)(hQ:∀y t,(∀(I:IM) (P:Params) (σ:Nat→Addr) (n:Nat),aq I P σ n v y)→Q y {s with toks:=t}):
  wpAny cx.M A (do let x ←eval e env;standAt pos;pure x) Q E s:=by
 induction e using PySem.Expr.casesOn with
 |Constant c=>
  induction c using PySem.Const.casesOn with
  |int=>exact wpAny_bind (wpAny_Constant_int (wpAny_bind (wpAny_standAt (wpAny_pure (hQ _ _ fun _ _ _ _=>qc h▸.int _ _)))))
  |str=>exact wpAny_bind (PySem.wpAny_Constant_str (wpAny_bind (wpAny_standAt (wpAny_pure (hQ _ _ fun _ _ _ _=>qc h▸.str _ _)))))
  |_=>exact nn h
 |_=>exact nn h
theorem Uc(h:Wl p v=some u)(r:aq I P σ n v y)(e1:∀(I:IM) (P:Params) (σ:Nat→Addr) (n:Nat),aq I P σ n p.1 y1)
  (e2:∀(I:IM) (P:Params) (σ:Nat→Addr) (n:Nat),aq I P σ n p.2.1 y2)(e3:∀(I:IM) (P:Params) (σ:Nat→Addr) (n:Nat),aq I P σ n p.2.2 y3):
  ∃kk z,Wk kk y=true∧valueAt [(some true,y1),(some false,y2),(none,y3)] kk=some z∧aq I P σ n u z:=by
 replace r:=r.inv;induction v using V.casesOn with
 |bool x=>
  subst r;induction x using qd with
  |true=>exact⟨some true,y1,rfl,rfl,qc h▸e1 ..⟩
  |false=>exact⟨some false,y2,rfl,rfl,qc h▸e2 ..⟩
 |none=>subst r;exact⟨none,y3,rfl,rfl,qc h▸e3 ..⟩
 |_=>exact nn h
theorem PI(h:ks.map PF=[some (some true),some (some false),some none]):∃a1 b1 a2 b2 a3 b3,ks=[some (.Constant (.bool true) a1 b1),some (.Constant (.bool false) a2 b2),some (.Constant .none a3 b3)]:=by
 obtain⟨x1,r1,rfl,q1,h1⟩:=List.map_eq_cons_iff.mp h;obtain⟨x2,r2,rfl,q2,h2⟩:=List.map_eq_cons_iff.mp h1;obtain⟨x3,r3,rfl,q3,h3⟩:=List.map_eq_cons_iff.mp h2;obtain⟨a1,b1,rfl⟩:=BN q1;obtain⟨a2,b2,rfl⟩:=BN q2;obtain⟨a3,b3,rfl⟩:=BN q3;exact⟨a1,b1,a2,b2,a3,b3,by rw[List.map_eq_nil_iff.mp h3]⟩
theorem Ud(S:aU cx ev)(H:au cx k A I σ st s)(l:av cx.P fe m env I σ st.length s.heap)
  (g:Good cx.S cx.pre (Mz ev k fe m st ks vs i) (EV cx I σ st s Q)):wpAny cx.M A (eval (.Subscript (.Dict ks vs aa0) i pos) env) Q E s:=by
 obtain⟨hk,g⟩:=bA g;refine aN g fun p hp g=> ?_;obtain⟨a1,b1,a2,b2,a3,b3,ek⟩:=PI (of_decide_eq_true hk);obtain⟨v1,v2,v3,ew,r1,r2,r3⟩:=PG hp;rw[ek,ew];refine Subscript_ (wpAny_Dict_pairs (knd:=RZ cx.prog cx.w) (pairs:=rS aa0 env [some (.Constant (.bool true) a1 b1),some (.Constant (.bool false) a2 b2),some (.Constant .none a3 b3)] [v1,v2,v3]) rfl (by intro z;cases z) (by show 3≤15;decide) (evalPairs_cons (wpAny_Constant_bool (BO r1 fun y1 t1 e1=>evalPairs_cons (wpAny_Constant_bool (BO r2 fun y2 t2 e2=>
  evalPairs_cons (wpAny_Constant_none (BO r3 fun y3 t3 e3=>evalPairs_nil ⟨[(some true,y1),(some false,y2),(none,y3)],⟨rfl,rfl,rfl,rfl,rfl,rfl,trivial⟩,Heap.DictOf.new _,fun h' hm hs=> ?_⟩))))))))
 have Cz:(([(some true,y1),(some false,y2),(none,y3)]:List (Option Bool×Value)).map (·.1)).Nodup:=by show([some true,some false,none]:List (Option Bool)).Nodup;decide
 rw[merged_nil_of_nodup _ Cz]at hm;have xg:=aM.grow H.rel fun b o e=>(hs.2 b (Nat.ne_of_lt (Heap.lt_size e))).trans (Heap.get?_push_of_some _ e);refine S.ee (H.go (s':={s with heap:=h',toks:=t3+3}) xg) (l.ext xg) g fun bG aZ aX s₁ v y aV aO aY bD rv aQ=>aN aQ fun u hu aQ=> ?_;have mo:=(hm.at (h':=s₁.heap) fun o e=>aV.keep _ o e (fun q=>q) fun j hj z=>by
  obtain⟨o',ho⟩:=H.rel.live hj;rw[z,dD]at ho;exact nn ho).mapOf
 obtain⟨kk,z,hk,hv,ru⟩:=Uc hu rv e1 e2 e3;obtain⟨nG,pN⟩:=g7 i (.ref s.heap.objs.size) y;exact tail_any (T:="dict") mo.typeIs slot_dict_getitem.lookup (wpAny_getItem_of (knd:=RZ cx.prog cx.w) hk mo hv (EV.tok (EV.into aQ (xg.trans aV) aO) aY ru _)) pN
end
noncomputable def EU(ev:Ev)(k:Nat)(fe:FE)(m:ai)(st:St)(v i:Expr):aA (V×St):=match v with
 |.Dict ks vs dp=>match Wm ks with
  |true=>Mz ev k fe m st ks vs i
  |false=>zk ev k fe m st (.Dict ks vs dp) i
 |v=>zk ev k fe m st v i
theorem Ue{cx:Cx}{ev:Ev}{k:Nat}{A:Around}{I:IM}{σ:Nat→Addr}{st:St}(S:aU cx ev)(H:au cx k A I σ st s)(l:av cx.P fe m env I σ st.length s.heap)(g:Good cx.S cx.pre (EU ev k fe m st v i) (EV cx I σ st s Q)):
  wpAny cx.M A (eval (.Subscript v i pos) env) Q E s:=by
 induction v using PySem.Expr.casesOn with
 |Dict ks vs dp=>
  unfold EU at g;dsimp only at g;induction q:Wm ks using qd with
  |true=>rw[q]at g;exact Ud S H l g
  |false=>rw[q]at g;exact Ct S H l g
 |_=>exact Ct S H l g
noncomputable def R0(cx:Cx)(ev:Ev)(k:Nat)(fe:FE)(m:ai)(st:St)(x:Expr):aA (V×St):=match x with
 |.Constant c _ _=>kW st (LK c)
 |.Name x _=>LL cx fe m st x
 |.Attribute v a _=>LM cx ev k fe m st v a
 |.Subscript v i _=>EU ev k fe m st v i
 |.Call f as ks pos=>Mc cx ev k fe m st f as ks pos
 |.BinOp l op r _=>Rw ev k fe m st op l r
 |.Compare l nG rs _=>match nG with
  |[op]=>match rs with
   |[r]=>Aa ev k fe m st l op r
   |_=>.bad
  |_=>.bad
 |.UnaryOp op x _=>match op with
  |.Not=>Rx ev k fe m st x
  |.USub=>Ry ev k fe m st x
  |_=>.bad
 |.IfExp t a b _=>RA ev k fe m st t a b
 |.Tuple es _ _=>RB ev k fe m st es
 |.List es _=>LN ev k fe m st es
 |.BoolOp op xs _=>match xs with
  |[x,y]=>match op with
   |.And=>RC ev k fe m st x y
   |.Or=>VQ ev k fe m st x y
  |_=>.bad
 |.ListComp e gs sc _=>As ev k fe m st e gs sc
 |.Dict ks vs _=>match ks with
  |[]=>match vs with
   |[]=>G7 st
   |_::_=>.bad
  |_::_=>Hx ev k fe m st ks vs
 |_=>.bad
noncomputable def iA(cx:Cx)(ev:Ev)(k:Nat)(fe:FE)(m:ai)(st:St)(x:Stmt):ig:=match x with
 |.Expr e pos=>Mf ev k fe m st e pos
 |.Return e _=>RH ev k fe m st e
 |.If t a b _=>V6 ev k fe m st t a b
 |.Assign ts v pos=>yH cx ev k fe m st ts v pos
 |.AugAssign t op v _=>RI cx ev k fe m st t op v
 |.For t i b o _=>RL ev k fe m st t i b o
 |.While t b o _=>Hs ev k fe m st t b o
 |.Pass _=>.ok ((.next,m),st)
 |.Try b hs o f _=>RY ev k fe m st b hs o f
 |_=>.bad
noncomputable def R3(cx:Cx)(ev:Ev)(k:Nat)(fe:FE)(m:ai)(st:St)(xs:List Stmt):ig:=match xs with
 |[]=>.ok ((.next,m),st)
 |x::r=>(iA cx ev k fe m st x).bind fun p=>match p.1.1 with
  |.next=>ev.b k fe p.1.2 p.2 r
  |_=>.ok p
noncomputable def cX(cx:Cx):Nat→Ev
 |0=>⟨fun _ _ _ _ _=>.bad,fun _ _ _ _ _=>.bad,fun _ _ _ _ _=>.bad,fun _ _ _ _=>.bad⟩
 |n+1=>⟨R0 cx (cX cx n),stepT (cX cx n),R3 cx (cX cx n),RG cx (cX cx n)⟩
section
variable{st:St}
theorem PJ(H:au cx k A I σ st s)(g:Good cx.S cx.pre (G7 st) (EV cx I σ st s Q)):wpAny cx.M A (eval (.Dict [] [] pos) env) Q E s:=by
 refine wpAny_Dict_empty ?_;exact EV.Bm g H rfl s.toks (.dict (es:=[]) 0 .nil)
theorem PK(S:aU cx ev)(H:au cx k A I σ st s)(l:av cx.P fe m env I σ st.length s.heap)(g:Good cx.S cx.pre (R0 cx ev k fe m st x) (EV cx I σ st s Q)):
  wpAny cx.M A (eval x env) Q E s:=by
 induction x using PySem.Expr.casesOn with
 |Constant c=>exact O5 H g
 |Name=>exact Tq H l g
 |Attribute=>exact Tu S H l g
 |Subscript=>exact Ue S H l g
 |Call=>exact TQ S H l g
 |BinOp=>exact O7 S H l g
 |Compare e nG rs=>induction nG using qh with
  |nil=>exact g.elim
  |cons op nG=>induction nG using qh with
   |cons=>exact g.elim
   |nil=>induction rs using qh with
    |nil=>exact g.elim
    |cons r rs=>induction rs using qh with
     |nil=>exact Tv S H l g
     |cons=>exact g.elim
 |UnaryOp op=>induction op using PySem.UnaryOp.casesOn with
  |Not=>exact VT S H l g
  |USub=>exact VU S H l g
  |_=>exact g.elim
 |IfExp=>exact VV S H l g
 |Tuple=>exact VW S H l g
 |List=>exact Tz S H l g
 |BoolOp op xs=>induction xs using qh with
  |nil=>exact g.elim
  |cons x xs=>induction xs using qh with
   |nil=>exact g.elim
   |cons y xs=>induction xs using qh with
    |nil=>induction op using PySem.BoolOp.casesOn with
     |And=>exact VX S H l g
     |Or=>exact Y7 S H l g
    |cons=>exact g.elim
 |ListComp=>exact TZ S H l g
 |Dict ks vs=>induction ks using qh with
  |nil=>induction vs using qh with
   |nil=>exact PJ H g
   |cons=>exact g.elim
  |cons=>exact PE S H l g
 |_=>exact g.elim
theorem mW(S:aU cx ev)(H:au cx k A I σ st s)(l:av cx.P fe m env I σ st.length s.heap)(g:Good cx.S cx.pre (iA cx ev k fe m st x) (EO cx fe env I σ st s Q)):
  wpAny cx.M A (exec x env) Q E s:=by
 induction x using PySem.Stmt.casesOn with
 |Expr=>exact TR S H l g
 |Return=>exact V7 S H l g
 |If=>exact Zb S H l g
 |Assign=>exact ER S H l g
 |AugAssign=>exact V8 S H l g
 |For=>exact Wc S H l g
 |While=>exact Pw S H l g
 |Pass=>exact wpAny_Pass (EO.here g (aM.refl H.rel) (bw.refl s) .next l)
 |Try=>exact Wj S H l g
 |_=>exact g.elim
theorem PL(S:aU cx ev)(H:au cx k A I σ st s)(l:av cx.P fe m env I σ st.length s.heap)(g:Good cx.S cx.pre (R3 cx ev k fe m st xs) (EO cx fe env I σ st s Q)):
  wpAny cx.M A (execs xs env) Q E s:=by
 induction xs using qh with
 |nil=>exact wpAny_execs_nil (EO.here g (aM.refl H.rel) (bw.refl s) .next l)
 |cons x xs=>
  refine wpAny_execs_cons (mW S H l (Good.mono (fun p gp bG aZ f s₁ aV aO ro=> ?_) (Good.bind g)));obtain⟨⟨out,m₁⟩,aX⟩:=p;obtain⟨ro,bD⟩:=ro;induction out using Out.casesOn with
  |next=>obtain rfl:=ro;exact S.b (H.go aV) bD (Good.mono (fun q gq=>EO.Za gq aV aO) gp)
  |brk=>obtain rfl:=ro;exact gp bG aZ _ s₁ aV aO ⟨.brk,bD⟩
  |cont=>obtain rfl:=ro;exact gp bG aZ _ s₁ aV aO ⟨.cont,bD⟩
  |ret u=>obtain⟨_,rfl,hh⟩:=ro;exact gp bG aZ _ s₁ aV aO ⟨.ret hh,bD⟩
theorem eX(K:Kept cx):∀n,aU cx (cX cx n)
 |0=>⟨fun _ _ g=>g.elim,fun _ _ g=>g.elim,fun _ _ g=>g.elim,fun _ _ _ g=>g.elim⟩
 |n+1=>⟨fun H l g=>PK (eX K n) H l g,fun H l g=>O8 (eX K n) H l g,fun H l g=>PL (eX K n) H l g,fun H rf r g=>Pk K (eX K n) H rf r g⟩
end
end
noncomputable def wG:List Stmt:=PySem.Challenge.pw_on0142_01.main.body
noncomputable def bV(i:Nat):Option Stmt:=di wG i
noncomputable def cR(i j:Nat):Option Stmt:=match di wG i with
 |some s=>match s with
  |.ClassDef _ _ _ body _ _ _ _ _ _ _=>di body j
  |_=>none
 |none=>none
noncomputable def PM(nm q:Str)(s:Option Stmt)(GY code pm:Value):FuncData:=match s with
 |some s=>match s with
  |.FunctionDef _ a b _ _ _ sc _ _ _=>{name:=nm,qualname:=q,params:=a,body:=.stmts b,scope:=sc,globals:=mainGlobals,closure:=[],defaults:=GY,kwdefaults:=.none,pyModule:=pm,code:=code,builtins:=builtinsNs}
  |_=>default
 |none=>default
noncomputable def yI(pm:Value)(nm q:Str)(s:Option Stmt)(GY:Value)(code:Nat):FuncData:=PM nm q s GY (.ref code) pm
noncomputable def pm0:=yI (.str "__main__" 164)
noncomputable def iS:=yI (.str "gemrows.things" 194)
noncomputable def Wn:=yI (.str "gemrows.errors" 713)
noncomputable def nK:=yI (.str "gemrows.walk" 809)
noncomputable def Z9:=yI (.str "gemrows.nodes" 1064)
noncomputable def Hy:=yI (.str "gemrows.walkmatch" 1339)
noncomputable def yJ:=yI (.str "gemrows.walkflow" 1422)
noncomputable def pm7:=yI (.str "gemrows.lines" 1544)
noncomputable def gV:=yI (.str "gemrows.world" 1562)
noncomputable def kJ:=yI (.str "law_on0142_01" 2060)
noncomputable def Du:FuncData:=iS "show" "show" (bV 30) (.ref 338) 344
noncomputable def sQ:FuncData:=nK "run" "Walker.run" (cR 40 11) .none 558
noncomputable def EW:FuncData:=kJ "_law_take" "_law_take" (bV 77) .none 1126
noncomputable def rT:FuncData:=kJ "_law_value" "_law_value" (bV 78) .none 1133
noncomputable def EX:FuncData:=kJ "_law_leaf" "_law_leaf" (bV 80) .none 1147
noncomputable def EY:FuncData:=kJ "_law_test" "_law_test" (bV 81) .none 1152
noncomputable def Au:FuncData:=kJ "_law_whens" "_law_whens" (bV 82) .none 1157
noncomputable def EZ:FuncData:=kJ "_law_pattern" "_law_pattern" (bV 83) .none 1162
noncomputable def Av:FuncData:=kJ "_law_arms" "_law_arms" (bV 84) .none 1169
noncomputable def E0:FuncData:=kJ "_law_node" "_law_node" (bV 85) .none 1174
noncomputable def Aw:FuncData:=kJ "_law_asked" "_law_asked" (bV 87) .none 1188
noncomputable def wH:FuncData:=kJ "_law_guard" "_law_guard" (bV 89) .none 1202
noncomputable def iK:FuncData:=kJ "_law_read" "_law_read" (bV 90) .none 1209
noncomputable def E1:FuncData:=kJ "_law_tested" "_law_tested" (bV 92) .none 1223
noncomputable def pB:FuncData:=kJ "_law_fits" "_law_fits" (bV 94) .none 1237
noncomputable def nL:FuncData:=kJ "_law_kinds" "_law_kinds" (bV 98) .none 1265
noncomputable def rU:FuncData:=kJ "law" "law" (bV 99) .none 1272
noncomputable abbrev aT(s:Str):Str×AK:=(s,.plain)
noncomputable abbrev cU(s:Str)(a:Addr):Str×AK:=(s,.yZ a)
noncomputable abbrev bJ(s:Str)(a:Addr):Str×V:=(s,.top a)
noncomputable abbrev E2(s:Str):Str×V:=(s,.tup [])
noncomputable abbrev eE(s x:Str):Str×V:=(s,.str x)
noncomputable def rV:List (Addr×FuncData×List V):=[
 (21,pm0 "_wall" "_wall" (bV 0) .none 20,[]),
 (37,iS "__init__" "Thing.__init__" (cR 5 0) .none 36,[]),
 (59,iS "__init__" "Text.__init__" (cR 6 0) (.ref 52) 58,[V.str ""]),
 (79,iS "__init__" "ListThing.__init__" (cR 7 0) (.ref 72) 78,[V.none]),
 (98,iS "__init__" "TableThing.__init__" (cR 8 0) .none 97,[]),
 (105,iS "put" "TableThing.put" (cR 8 1) .none 104,[]),
 (112,iS "row" "TableThing.row" (cR 8 2) .none 111,[]),
 (117,iS "pairs" "TableThing.pairs" (cR 8 3) .none 116,[]),
 (137,iS "__init__" "RangeThing.__init__" (cR 9 0) (.ref 130) 136,[V.none,V.none,V.bool false]),
 (158,iS "__init__" "ProcThing.__init__" (cR 10 0) (.ref 151) 157,[V.none,V.none,V.none,V.none,V.tup [],V.none,V.none,V.bool false,V.none]),
 (178,iS "__init__" "ErrorThing.__init__" (cR 11 0) (.ref 171) 177,[V.none]),
 (198,iS "__init__" "FiberThing.__init__" (cR 12 0) (.ref 191) 197,[V.none]),
 (218,iS "__init__" "ModuleThing.__init__" (cR 13 0) (.ref 211) 217,[V.none,V.bool false,V.none,V.none]),
 (225,iS "is_own" "ModuleThing.is_own" (cR 13 1) .none 224,[]),
 (237,iS "is_int" "is_int" (bV 14) .none 236,[]),
 (244,iS "truth" "truth" (bV 15) .none 243,[]),
 (251,iS "sort_of" "sort_of" (bV 16) .none 250,[]),
 (258,iS "same" "same" (bV 17) .none 257,[]),
 (264,iS "code_of" "code_of" (bV 18) (.ref 259) 263,[V.int (12)]),
 (271,iS "is_word" "is_word" (bV 19) .none 270,[]),
 (278,iS "is_label" "is_label" (bV 20) .none 277,[]),
 (285,iS "is_plain_symbol" "is_plain_symbol" (bV 21) .none 284,[]),
 (292,iS "full_name" "full_name" (bV 22) .none 291,[]),
 (299,iS "show_letter" "show_letter" (bV 23) .none 298,[]),
 (304,iS "show_text" "show_text" (bV 24) .none 303,[]),
 (311,iS "show_symbol" "show_symbol" (bV 25) .none 310,[]),
 (318,iS "show_pair" "show_pair" (bV 26) .none 317,[]),
 (325,iS "show_range" "show_range" (bV 27) .none 324,[]),
 (330,iS "show_thing" "show_thing" (bV 28) .none 329,[]),
 (337,iS "show_error" "show_error" (bV 29) .none 336,[]),
 (345,Du,[V.int (6)]),
 (360,Wn "__init__" "GemError.__init__" (cR 32 0) (.ref 353) 359,[V.str ""]),
 (392,Wn "__init__" "StepsOver.__init__" (cR 34 0) .none 391,[]),
 (411,Wn "__init__" "Raised.__init__" (cR 35 0) .none 410,[]),
 (423,nK "give_cause" "give_cause" (bV 37) .none 422,[]),
 (438,nK "__init__" "Way.__init__" (cR 38 0) (.ref 431) 437,[V.none,V.none]),
 (460,nK "__init__" "Task.__init__" (cR 39 0) (.ref 453) 459,[V.none]),
 (481,nK "__init__" "Walker.__init__" (cR 40 0) .none 480,[]),
 (488,nK "enter" "Walker.enter" (cR 40 1) .none 487,[]),
 (495,nK "go" "Walker.go" (cR 40 2) .none 494,[]),
 (503,nK "send" "Walker.send" (cR 40 3) (.ref 496) 502,[V.none,V.str "call",V.none]),
 (510,nK "done" "Walker.done" (cR 40 4) .none 509,[]),
 (517,nK "leave" "Walker.leave" (cR 40 5) .none 516,[]),
 (524,nK "deliver" "Walker.deliver" (cR 40 6) .none 523,[]),
 (531,nK "going" "Walker.going" (cR 40 7) .none 530,[]),
 (538,nK "raise_error" "Walker.raise_error" (cR 40 8) .none 537,[]),
 (545,nK "fail" "Walker.fail" (cR 40 9) .none 544,[]),
 (552,nK "step" "Walker.step" (cR 40 10) .none 551,[]),
 (559,sQ,[]),
 (573,nK "do_nil" "do_nil" (bV 41) .none 572,[]),
 (580,nK "do_values" "do_values" (bV 42) .none 579,[]),
 (587,nK "do_array" "do_array" (bV 43) .none 586,[]),
 (594,nK "do_seq" "do_seq" (bV 44) .none 593,[]),
 (677,Z9 "__init__" "Node.__init__" (cR 47 0) (.ref 670) 676,[V.tup [],V.int (0)]),
 (684,Z9 "part" "Node.part" (cR 47 1) .none 683,[]),
 (705,Hy "__init__" "Match.__init__" (cR 49 0) .none 704,[]),
 (719,Hy "enter_pattern" "enter_pattern" (bV 50) .none 718,[]),
 (726,Hy "bind_local" "bind_local" (bV 51) .none 725,[]),
 (733,Hy "p_value" "p_value" (bV 52) .none 732,[]),
 (740,Hy "p_bind" "p_bind" (bV 53) .none 739,[]),
 (747,Hy "p_alt" "p_alt" (bV 54) .none 746,[]),
 (761,yJ "__init__" "Choice.__init__" (cR 56 0) .none 760,[]),
 (775,yJ "case" "case" (bV 57) .none 774,[]),
 (782,yJ "ask_test" "ask_test" (bV 58) .none 781,[]),
 (789,yJ "ask_value" "ask_value" (bV 59) .none 788,[]),
 (796,yJ "case_body" "case_body" (bV 60) .none 795,[]),
 (803,yJ "casein" "casein" (bV 61) .none 802,[]),
 (810,yJ "next_arm" "next_arm" (bV 62) .none 809,[]),
 (817,yJ "match_arm" "match_arm" (bV 63) .none 816,[]),
 (824,yJ "matchp" "matchp" (bV 64) .none 823,[]),
 (831,yJ "matchq" "matchq" (bV 65) .none 830,[]),
 (838,pm7 "raise_version" "raise_version" (bV 67) .none 837,[]),
 (845,pm7 "own_module" "own_module" (bV 68) .none 844,[]),
 (873,gV "__init__" "World.__init__" (cR 74 0) (.ref 866) 872,[V.none,V.none,V.int (20000)]),
 (880,gV "tick" "World.tick" (cR 74 1) .none 879,[]),
 (887,gV "write" "World.write" (cR 74 2) .none 886,[]),
 (894,gV "number" "World.number" (cR 74 3) .none 893,[]),
 (901,gV "next_ident" "World.next_ident" (cR 74 4) .none 900,[]),
 (908,gV "ident" "World.ident" (cR 74 5) .none 907,[]),
 (915,gV "builtin" "World.builtin" (cR 74 6) .none 914,[]),
 (920,gV "make_builtin" "World.make_builtin" (cR 74 7) .none 919,[]),
 (927,gV "give_own" "World.give_own" (cR 74 8) .none 926,[]),
 (935,gV "new_module" "World.new_module" (cR 74 9) (.ref 928) 934,[V.none,V.none,V.none]),
 (942,gV "class_of" "World.class_of" (cR 74 10) .none 941,[]),
 (949,gV "own_of" "World.own_of" (cR 74 11) .none 948,[]),
 (956,gV "own_behind" "World.own_behind" (cR 74 12) .none 955,[]),
 (963,gV "root_of" "World.root_of" (cR 74 13) .none 962,[]),
 (970,gV "real_class" "World.real_class" (cR 74 14) .none 969,[]),
 (977,gV "text" "World.text" (cR 74 15) .none 976,[]),
 (984,gV "list_of" "World.list_of" (cR 74 16) .none 983,[]),
 (991,gV "table_of" "World.table_of" (cR 74 17) .none 990,[]),
 (998,gV "key_of" "World.key_of" (cR 74 18) .none 997,[]),
 (1005,gV "range_of" "World.range_of" (cR 74 19) .none 1004,[]),
 (1012,gV "proc" "World.proc" (cR 74 20) .none 1011,[]),
 (1019,gV "thing" "World.thing" (cR 74 21) .none 1018,[]),
 (1026,gV "is_error_class" "World.is_error_class" (cR 74 22) .none 1025,[]),
 (1031,gV "spread" "World.spread" (cR 74 23) .none 1030,[]),
 (1038,gV "error" "World.error" (cR 74 24) .none 1037,[]),
 (1045,gV "fail" "World.fail" (cR 74 25) .none 1044,[]),
 (1052,gV "need_thawed" "World.need_thawed" (cR 74 26) .none 1051,[]),
 (1059,gV "set_field" "World.set_field" (cR 74 27) .none 1058,[]),
 (1066,gV "describe" "World.describe" (cR 74 28) .none 1065,[]),
 (1073,gV "own_constant" "World.own_constant" (cR 74 29) .none 1072,[]),
 (1080,gV "find_constant" "World.find_constant" (cR 74 30) .none 1079,[]),
 (1087,gV "constant" "World.constant" (cR 74 31) .none 1086,[]),
 (1094,gV "find_in" "World.find_in" (cR 74 32) .none 1093,[]),
 (1101,gV "constant_in" "World.constant_in" (cR 74 33) .none 1100,[]),
 (1108,gV "set_constant" "World.set_constant" (cR 74 34) .none 1107,[]),
 (1120,kJ "_law_bag" "_law_bag" (bV 76) .none 1119,[]),
 (1127,EW,[]),
 (1134,rT,[]),
 (1141,kJ "_law_other" "_law_other" (bV 79) .none 1140,[]),
 (1148,EX,[]),
 (1153,EY,[]),
 (1158,Au,[]),
 (1163,EZ,[]),
 (1170,Av,[]),
 (1175,E0,[]),
 (1182,kJ "_law_weight" "_law_weight" (bV 86) .none 1181,[]),
 (1189,Aw,[]),
 (1196,kJ "_law_holds" "_law_holds" (bV 88) .none 1195,[]),
 (1203,wH,[]),
 (1210,iK,[]),
 (1217,kJ "_law_all" "_law_all" (bV 91) .none 1216,[]),
 (1224,E1,[]),
 (1231,kJ "_law_case" "_law_case" (bV 93) .none 1230,[]),
 (1238,pB,[]),
 (1245,kJ "_law_words" "_law_words" (bV 95) .none 1244,[]),
 (1252,kJ "_law_one" "_law_one" (bV 96) .none 1251,[]),
 (1259,kJ "_law_arm" "_law_arm" (bV 97) .none 1258,[]),
 (1266,nL,[]),
 (1273,rU,[])]
noncomputable def Ax:List (Str×V):=[
 bJ "_wall" 21,
 bJ "is_int" 237,
 bJ "truth" 244,
 bJ "sort_of" 251,
 bJ "same" 258,
 bJ "code_of" 264,
 bJ "is_word" 271,
 bJ "is_label" 278,
 bJ "is_plain_symbol" 285,
 bJ "full_name" 292,
 bJ "show_letter" 299,
 bJ "show_text" 304,
 bJ "show_symbol" 311,
 bJ "show_pair" 318,
 bJ "show_range" 325,
 bJ "show_thing" 330,
 bJ "show_error" 337,
 bJ "show" 345,
 bJ "give_cause" 423,
 bJ "do_nil" 573,
 bJ "do_values" 580,
 bJ "do_array" 587,
 bJ "do_seq" 594,
 bJ "enter_pattern" 719,
 bJ "bind_local" 726,
 bJ "p_value" 733,
 bJ "p_bind" 740,
 bJ "p_alt" 747,
 bJ "case" 775,
 bJ "ask_test" 782,
 bJ "ask_value" 789,
 bJ "case_body" 796,
 bJ "casein" 803,
 bJ "next_arm" 810,
 bJ "match_arm" 817,
 bJ "matchp" 824,
 bJ "matchq" 831,
 bJ "raise_version" 838,
 bJ "own_module" 845,
 bJ "_law_bag" 1120,
 bJ "_law_take" 1127,
 bJ "_law_value" 1134,
 bJ "_law_other" 1141,
 bJ "_law_leaf" 1148,
 bJ "_law_test" 1153,
 bJ "_law_whens" 1158,
 bJ "_law_pattern" 1163,
 bJ "_law_arms" 1170,
 bJ "_law_node" 1175,
 bJ "_law_weight" 1182,
 bJ "_law_asked" 1189,
 bJ "_law_holds" 1196,
 bJ "_law_guard" 1203,
 bJ "_law_read" 1210,
 bJ "_law_all" 1217,
 bJ "_law_tested" 1224,
 bJ "_law_case" 1231,
 bJ "_law_fits" 1238,
 bJ "_law_words" 1245,
 bJ "_law_one" 1252,
 bJ "_law_arm" 1259,
 bJ "_law_kinds" 1266,
 bJ "law" 1273,
 bJ "Thing" 40,
 bJ "Text" 62,
 bJ "ListThing" 82,
 bJ "TableThing" 120,
 bJ "RangeThing" 140,
 bJ "ErrorThing" 181,
 bJ "ModuleThing" 228,
 bJ "Way" 441,
 bJ "Task" 463,
 bJ "Walker" 562,
 bJ "Node" 687,
 bJ "Match" 708,
 bJ "Choice" 764,
 bJ "World" 1111,
 (("FIELDS":Str),V.fy [E2 "nil",E2 "true",E2 "false",E2 "self",E2 "retry",(("int":Str),V.tup [V.str "value"]),(("sym":Str),V.tup [V.str "name"]),(("str":Str),V.tup [V.str "text"]),(("dstr":Str),V.tup [V.str "parts"]),(("array":Str),V.tup [V.str "items"]),(("hash":Str),V.tup [V.str "pairs"]),(("range":Str),V.tup [V.str "first",V.str "last",V.str "open"]),(("splat":Str),V.tup [V.str "value"]),(("lvar":Str),V.tup [V.str "name"]),(("ivar":Str),V.tup [V.str "name"]),(("gvar":Str),V.tup [V.str "name"]),(("const":Str),V.tup [V.str "scope",V.str "name"]),(("t_local":Str),V.tup [V.str "name"]),(("t_ivar":Str),V.tup [V.str "name"]),(("t_gvar":Str),V.tup [V.str "name"]),(("t_const":Str),V.tup [V.str "name"]),(("t_index":Str),V.tup [V.str "receiver",V.str "args"]),(("t_attr":Str),V.tup [V.str "receiver",V.str "name"]),(("t_splat":Str),V.tup [V.str "target"]),(("t_group":Str),V.tup [V.str "targets"]),(("assign":Str),V.tup [V.str "target",V.str "value"]),(("masgn":Str),V.tup [V.str "targets",V.str "value"]),(("opasgn":Str),V.tup [V.str "target",V.str "op",V.str "value"]),(("call":Str),V.tup [V.str "receiver",V.str "name",V.str "args",V.str "block",V.str "safe"]),(("vcall":Str),V.tup [V.str "name"]),(("block":Str),V.tup [V.str "params",V.str "body"]),(("blockpass":Str),V.tup [V.str "value"]),(("and":Str),V.tup [V.str "left",V.str "right"]),(("or":Str),V.tup [V.str "left",V.str "right"]),(("not":Str),V.tup [V.str "value"]),(("super":Str),V.tup [V.str "args",V.str "block"]),(("yield":Str),V.tup [V.str "args"]),(("lambda":Str),V.tup [V.str "params",V.str "body"]),(("defined":Str),V.tup [V.str "value"]),(("seq":Str),V.tup [V.str "items"]),(("if":Str),V.tup [V.str "test",V.str "yes",V.str "no"]),(("while":Str),V.tup [V.str "test",V.str "body",V.str "negate"]),(("case":Str),V.tup [V.str "subject",V.str "whens",V.str "other"]),(("casein":Str),V.tup [V.str "subject",V.str "arms",V.str "other"]),(("matchp":Str),V.tup [V.str "value",V.str "pattern"]),(("matchq":Str),V.tup [V.str "value",V.str "pattern"]),(("begin":Str),V.tup [V.str "body",V.str "rescues",V.str "other",V.str "ensure"]),(("break":Str),V.tup [V.str "value"]),(("next":Str),V.tup [V.str "value"]),(("return":Str),V.tup [V.str "value"]),(("def":Str),V.tup [V.str "singleton",V.str "name",V.str "params",V.str "body"]),(("class":Str),V.tup [V.str "name",V.str "superclass",V.str "body"]),(("module":Str),V.tup [V.str "name",V.str "body"]),(("sclass":Str),V.tup [V.str "value",V.str "body"]),(("alias":Str),V.tup [V.str "new",V.str "old"]),(("undef":Str),V.tup [V.str "name"]),(("p_value":Str),V.tup [V.str "value"]),(("p_bind":Str),V.tup [V.str "name"]),(("p_pin":Str),V.tup [V.str "value"]),(("p_alt":Str),V.tup [V.str "patterns"]),(("p_as":Str),V.tup [V.str "pattern",V.str "name"]),(("p_array":Str),V.tup [V.str "const",V.str "pre",V.str "rest",V.str "post"]),(("p_hash":Str),V.tup [V.str "const",V.str "pairs",V.str "rest"])]),
 (("MODULES":Str),V.tup [V.str "Kernel",V.str "Comparable",V.str "Enumerable"]),
 (("BUILTINS":Str),V.fy [(("BasicObject":Str),V.none),eE "Object" "BasicObject",eE "Module" "Object",eE "Class" "Module",(("Kernel":Str),V.none),(("Comparable":Str),V.none),(("Enumerable":Str),V.none),eE "NilClass" "Object",eE "TrueClass" "Object",eE "FalseClass" "Object",eE "Numeric" "Object",eE "Integer" "Numeric",eE "String" "Object",eE "Symbol" "Object",eE "Array" "Object",eE "Hash" "Object",eE "Range" "Object",eE "Proc" "Object",eE "Fiber" "Object",eE "Exception" "Object",eE "ScriptError" "Exception",eE "NotImplementedError" "ScriptError",eE "SystemStackError" "Exception",eE "StandardError" "Exception",eE "ArgumentError" "StandardError",eE "UncaughtThrowError" "ArgumentError",eE "FiberError" "StandardError",eE "IndexError" "StandardError",eE "KeyError" "IndexError",eE "StopIteration" "IndexError",eE "LocalJumpError" "StandardError",eE "NameError" "StandardError",eE "NoMethodError" "NameError",eE "NoMatchingPatternError" "StandardError",eE "NoMatchingPatternKeyError" "NoMatchingPatternError",eE "RangeError" "StandardError",eE "RuntimeError" "StandardError",eE "FrozenError" "RuntimeError",eE "TypeError" "StandardError",eE "ZeroDivisionError" "StandardError"]),
 (("MIXED":Str),V.fy [(("Object":Str),V.tup [V.str "Kernel"]),(("Numeric":Str),V.tup [V.str "Comparable"]),(("String":Str),V.tup [V.str "Comparable"]),(("Symbol":Str),V.tup [V.str "Comparable"]),(("Array":Str),V.tup [V.str "Enumerable"]),(("Hash":Str),V.tup [V.str "Enumerable"]),(("Range":Str),V.tup [V.str "Enumerable"])]),
 (("OPERATORS":Str),V.tup [V.str "+",V.str "-",V.str "*",V.str "/",V.str "%",V.str "**",V.str "==",V.str "!=",V.str "<",V.str ">",V.str "<=",V.str ">=",V.str "<=>",V.str "===",V.str "[]",V.str "[]=",V.str "<<",V.str ">>",V.str "!",V.str "~",V.str "+@",V.str "-@",V.str "&",V.str "|",V.str "^",V.str "=~",V.str "!~"]),
 (("isinstance":Str),V.bi .zM),
 (("len":Str),V.bi .len),
 (("abs":Str),V.bi .abs),
 (("repr":Str),V.bi .repr),
 (("list":Str),V.ty .list),
 (("tuple":Str),V.ty .tuple),
 (("str":Str),V.ty .str),
 (("int":Str),V.ty .int),
 (("bool":Str),V.ty .bool),
 (("range":Str),V.ty .range)]
noncomputable def Wo:List (Addr×List (Str×AK)):=[
 (40,[aT "number",aT "owner",aT "fields",aT "own",aT "frozen",aT "ident"]),
 (62,[aT "number",aT "owner",aT "fields",aT "own",aT "frozen",aT "ident",aT "text"]),
 (82,[aT "number",aT "owner",aT "fields",aT "own",aT "frozen",aT "ident",aT "items"]),
 (120,[aT "number",aT "owner",aT "fields",aT "own",aT "frozen",aT "ident",aT "rows",aT "spare",cU "put" 105,cU "row" 112,cU "pairs" 117]),
 (140,[aT "number",aT "owner",aT "fields",aT "own",aT "frozen",aT "ident",aT "first",aT "last",aT "open"]),
 (181,[aT "number",aT "owner",aT "fields",aT "own",aT "frozen",aT "ident",aT "message",aT "cause"]),
 (228,[aT "number",aT "owner",aT "fields",aT "own",aT "frozen",aT "ident",aT "name",aT "is_class",aT "parent",aT "outer",aT "methods",aT "constants",aT "mixed",aT "ahead",aT "attached",aT "native",aT "kept",cU "is_own" 225]),
 (441,[aT "sort",aT "value",aT "tag"]),
 (463,[aT "kind",aT "node",aT "env",aT "number",aT "state",aT "held",aT "kept"]),
 (562,[aT "world",aT "table",aT "catches",aT "stack",aT "way",aT "fiber",cU "enter" 488,cU "go" 495,cU "send" 503,cU "done" 510,cU "leave" 517,cU "deliver" 524,cU "going" 531,cU "raise_error" 538,cU "fail" 545,cU "step" 552,cU "run" 559]),
 (687,[aT "kind",aT "parts",aT "line",aT "own",cU "part" 684]),
 (708,[aT "subject",aT "items",aT "rows",aT "at"]),
 (764,[aT "subject",aT "arm",aT "place",aT "values"]),
 (1111,[aT "natives",aT "prelude",aT "read",aT "most",aT "taken",aT "last_number",aT "last_ident",aT "symbol_idents",aT "made",aT "version",aT "const_version",aT "globals",aT "out",aT "is_ready",aT "main",cU "tick" 880,cU "write" 887,cU "number" 894,cU "next_ident" 901,cU "ident" 908,cU "builtin" 915,cU "make_builtin" 920,cU "give_own" 927,cU "new_module" 935,cU "class_of" 942,cU "own_of" 949,cU "own_behind" 956,cU "root_of" 963,cU "real_class" 970,cU "text" 977,cU "list_of" 984,cU "table_of" 991,cU "key_of" 998,cU "range_of" 1005,cU "proc" 1012,cU "thing" 1019,cU "is_error_class" 1026,cU "spread" 1031,cU "error" 1038,cU "fail" 1045,cU "need_thawed" 1052,cU "set_field" 1059,cU "describe" 1066,cU "own_constant" 1073,cU "find_constant" 1080,cU "constant" 1087,cU "find_in" 1094,cU "constant_in" 1101,cU "set_constant" 1108])]
noncomputable def Wq:List (Addr×Addr):=[(40,37),(62,59),(82,79),(120,98),(140,137),(181,178),(228,218),(441,438),(463,460),(562,481),(687,677),(708,705),(764,761),(1111,873)]
noncomputable def Wr:List (Addr×List (Str×Addr)):=[(40,[("__init__",37)])]
noncomputable def Zf:List (Nat×Nat×Bool):=[(0,2,false),(0,3,false),(0,4,false),(0,68,false),(0,88,false),(0,126,false),(0,146,false),(0,187,false),(0,234,false),(0,46,false),(1,2,false),(1,3,true),(1,4,true),(1,68,false),(1,88,false),(1,126,false),(1,146,false),(1,187,false),(1,234,false),(1,46,false),(2,2,false),(2,3,true),(2,4,false),(2,68,false),(2,88,false),(2,126,false),(2,146,false),(2,187,false),(2,234,false),(2,46,false),(3,2,true),(3,3,false),(3,4,false),(3,68,false),(3,88,false),(3,126,false),(3,146,false),(3,187,false),(3,234,false),(3,46,false),(4,2,false),(4,3,false),(4,4,false),(4,68,false),(4,88,false),(4,126,false),(4,146,false),(4,187,false),(4,234,false),(4,46,false),(5,2,false),(5,3,false),(5,4,false),(5,68,false),(5,88,false),(5,126,false),(5,146,false),(5,187,false),(5,234,false),(5,46,false),(89,2,false),(89,3,false),(89,4,false),(89,68,false),(89,88,true),(89,126,false),(89,146,false),(89,187,false),(89,234,false),(89,46,true),(188,2,false),(188,3,false),(188,4,false),(188,68,false),(188,88,false),(188,126,false),(188,146,false),(188,187,true),(188,234,false),(188,46,true),(235,2,false),(235,3,false),(235,4,false),(235,68,false),(235,88,false),(235,126,false),(235,146,false),(235,187,false),(235,234,true),(235,46,true),(69,2,false),(69,3,false),(69,4,false),(69,68,true),(69,88,false),(69,126,false),(69,146,false),(69,187,false),(69,234,false),(69,46,true)]
noncomputable def Zg:List Addr:=[82,181,228,62]
noncomputable def Wt:List Addr:=[21,237,244,251,258,264,271,278,285,292,299,304,311,318,325,330,337,345,423,573,580,587,594,719,726,733,740,747,775,782,789,796,803,810,817,824,831,838,845,1120,1127,1134,1141,1148,1153,1158,1163,1170,1175,1182,1189,1196,1203,1210,1217,1224,1231,1238,1245,1252,1259,1266,1273,40,62,82,120,140,181,228,441,463,562,687,708,764,1111,37,59,79,98,105,112,117,137,178,218,225,438,460,481,488,495,503,510,517,524,531,538,545,552,559,677,684,705,761,873,880,887,894,901,908,915,920,927,935,942,949,956,963,970,977,984,991,998,1005,1012,1019,1026,1031,1038,1045,1052,1059,1066,1073,1080,1087,1094,1101,1108]
noncomputable def R4:DR:={attrs:=Wo,clsAt:=Wr,isin:=Zf,tH:=Zg,makes:=Wq,keeps:=Wt}
noncomputable def aa1(asks:List Addr)(K:Frag):Tab:={glob:=Ax,fns:=rV,asks:=asks,K:=K,T:=R4}
def eY{α:Type}:aA α→Prop
 |.need p r=>p∧eY r
 |_=>True
noncomputable def strip{α:Type}:aA α→aA α
 |.need _ r=>strip r
 |r=>r
noncomputable def R5{α:Type}(r:aA α):Option (Addr×List V):=match r with
 |.ask _ f as _ _=>some (f,as)
 |_=>none
noncomputable def BP{α:Type}(r:aA α):Option (Addr×List V):=R5 (strip r)
noncomputable def R6{α:Type}(r:aA α):Nat:=match r with
 |.ask d _ _ _ _=>d
 |_=>0
noncomputable def BQ{α:Type}(r:aA α):Nat:=R6 (strip r)
noncomputable def Ay{α:Type}(r:aA α):St:=match r with
 |.ask _ _ _ st _=>st
 |_=>[]
noncomputable def lX{α:Type}(r:aA α):St:=Ay (strip r)
noncomputable def R7{α:Type}(r:aA α)(v:V)(st':St):aA α:=match r with
 |.ask _ _ _ _ k=>k v st'
 |_=>.bad
noncomputable def jQ{α:Type}(r:aA α)(v:V)(st':St):aA α:=R7 (strip r) v st'
noncomputable def BR{α:Type}(r:aA α):Bool:=match r with
 |.fork _ _=>true
 |_=>false
noncomputable def wI{α:Type}(r:aA α):Bool:=BR (strip r)
noncomputable def E3{α:Type}(r:aA α):Bool:=match r with
 |.fork b _=>b
 |_=>true
noncomputable def xS{α:Type}(r:aA α):Bool:=E3 (strip r)
noncomputable def MA{α:Type}(r:aA α)(c:Bool):aA α:=match r with
 |.fork _ k=>k c
 |_=>.bad
noncomputable def ah{α:Type}(r:aA α)(c:Bool):aA α:=MA (strip r) c
noncomputable def E4{α:Type}(r:aA α):Option (List V×Int):=match r with
 |.pick vs i _=>some (vs,i)
 |_=>none
noncomputable def JI{α:Type}(r:aA α):Option (List V×Int):=E4 (strip r)
noncomputable def MB{α:Type}(r:aA α)(v:V):aA α:=match r with
 |.pick _ _ k=>k v
 |_=>.bad
noncomputable def bE{α:Type}(r:aA α)(v:V):aA α:=MB (strip r) v
noncomputable def E5{α:Type}(r:aA α):Option (List V×ai×St):=match r with
 |.loop _ _ vs m st _=>some (vs,m,st)
 |_=>none
noncomputable def Zh{α:Type}(r:aA α):Option (List V×ai×St):=E5 (strip r)
noncomputable def MC{α:Type}(r:aA α)(v:V)(m:ai)(st:St):aA cC:=match r with
 |.loop t _ _ _ _ _=>t v m st
 |_=>.bad
noncomputable def i8{α:Type}(r:aA α)(v:V)(m:ai)(st:St):aA cC:=MC (strip r) v m st
noncomputable def HA{α:Type}(r:aA α)(m:ai):ai:=match r with
 |.loop _ kp _ _ _ _=>kp m
 |_=>m
noncomputable def lu{α:Type}(r:aA α)(m:ai):ai:=HA (strip r) m
noncomputable def E6{α:Type}(r:aA α)(p:cC):aA α:=match r with
 |.loop _ _ _ _ _ k=>k p
 |_=>.bad
noncomputable def i9{α:Type}(r:aA α)(p:cC):aA α:=E6 (strip r) p
noncomputable def JJ{α:Type}(r:aA α):Bool:=match r with
 |.ok _=>true
 |_=>false
noncomputable def iL{α:Type}(r:aA α):Bool:=JJ (strip r)
noncomputable def Wu(r:aA (V×St)):V:=match r with
 |.ok p=>p.1
 |_=>.none
noncomputable def rW(r:aA (V×St)):V:=Wu (strip r)
noncomputable def Wv(r:aA (V×St)):St:=match r with
 |.ok p=>p.2
 |_=>[]
noncomputable def rX(r:aA (V×St)):St:=Wv (strip r)
structure ja {α:Type} (r:aA α):Prop where
 out:eY r
structure Gd {α:Type} (S:Spec) (pre:Nat→Addr→List V→St→Prop) (r:aA α) (Q:α→Prop):Prop where
 out:Good S pre r Q
section
variable{α:Type}
theorem gk:eY r→Good S pre (strip r) Q→Good S pre r Q:=by
 induction r with
 |need p r ih=>exact fun h g=>⟨h.1,ih h.2 g⟩
 |_=>exact fun _ g=>g
theorem Ug(h:strip r=.ok a)(n:eY r)(q:Q a):Good S pre r Q:=gk n (by rw[h];exact q)
theorem MD(h:R5 s=some (f,as))(hp:S (R6 s) f as (Ay s) W)(hk:∀v st',W v st'→Good S pre (R7 s v st') Q):Good S pre s Q:=by
 induction s using aA.casesOn with
 |ask=>obtain⟨rfl,rfl⟩:=oq h;exact⟨W,hp,hk⟩
 |_=>exact nn h
theorem PN(f:Addr)(as:List V)(h:BP r=some (f,as))(n:eY r)(W:V→St→Prop)(hp:S (BQ r) f as (lX r) W)(hk:∀v st',W v st'→Good S pre (jQ r v st') Q):Good S pre r Q:=gk n (MD h hp hk)
theorem JK(h:BR s=true)(hk:∀c,E3 s=c→Good S pre (MA s c) Q):Good S pre s Q:=by
 induction s using aA.casesOn with
 |fork b k=>exact hk b rfl
 |_=>exact ft h
theorem ME(h:wI r=true)(n:eY r)(hk:∀c,xS r=c→Good S pre (ah r c) Q):Good S pre r Q:=gk n (JK h hk)
theorem JL(h:E4 s=some (vs,i))(hi:i=Int.ofNat j)(hv:vs[j]? =some v)(hl:vs.length<500)(hk:Good S pre (MB s v) Q):Good S pre s Q:=by
 induction s using aA.casesOn with
 |pick=>obtain⟨rfl,rfl⟩:=oq h;exact⟨j,v,hi,hv,hl,hk⟩
 |_=>exact nn h
theorem MF(vs:List V)(i:Int)(h:JI r=some (vs,i))(n:eY r)(j:Nat)(v:V)(hi:i=Int.ofNat j)(hv:vs[j]? =some v)(hl:vs.length<500)(hk:Good S pre (bE r v) Q):Good S pre r Q:=gk n (JL h hi hv hl hk)
def LpQ(S:Spec)(pre:Nat→Addr→List V→St→Prop)(Q:α→Prop)(Inv:List V→ai→St→Prop)(rest:List V)(kp:ai→ai)(k:cC→aA α)(p:cC):Prop:=match p.1.1 with
 |.next=>Inv rest (kp p.1.2) p.2
 |.cont=>Inv rest (kp p.1.2) p.2
 |.brk=>Good S pre (k ((.next,p.1.2),p.2)) Q
 |.ret u=>Good S pre (k ((.ret u,p.1.2),p.2)) Q
theorem PO{m:ai}{st:St}{Inv:List V→ai→St→Prop}(h:E5 s=some (vs,m,st))(h0:Inv vs m st)
  (h1:∀v rest m st,Inv (v::rest) m st→Good S pre (MC s v m st) (LpQ S pre Q Inv rest (HA s) (E6 s)))
  (h2:∀m st,Inv [] m st→Good S pre (E6 s ((.next,m),st)) Q):Good S pre s Q:=by
 induction s using aA.casesOn with
 |loop=>obtain⟨rfl,e⟩:=oq h;obtain⟨rfl,rfl⟩:=qQ e;exact⟨Inv,h0,h1,h2⟩
 |_=>exact nn h
end
theorem MG(h:JJ s=true)(q:Q (Wu s,Wv s)):Good S pre s Q:=by
 cases s with
 |ok=>exact q
 |_=>exact ft h
theorem PR(h:iL r=true)(n:eY r)(q:Q (rW r,rX r)):Good S pre r Q:=gk n (MG h q)
section
variable{α:Type}
theorem kK(h:strip r=.ok a)(n:ja r)(q:Q a):Gd S pre r Q:=⟨Ug h n.out q⟩
theorem MH{Q:V×St→Prop}(h:iL r=true)(n:ja r)(q:Q (rW r,rX r)):Gd S pre r Q:=⟨PR h n.out q⟩
theorem MI(f:Addr)(as:List V)(h:BP r=some (f,as))(n:ja r)(W:V→St→Prop)(hp:S (BQ r) f as (lX r) W)(hk:∀v st',W v st'→Gd S pre (jQ r v st') Q):Gd S pre r Q:=⟨PN f as h n.out W hp fun v st' hs=>(hk v st' hs).out⟩
theorem ur(h:wI r=true)(n:ja r)(hk:∀c,xS r=c→Gd S pre (ah r c) Q):Gd S pre r Q:=⟨ME h n.out fun c hc=>(hk c hc).out⟩
theorem g9(vs:List V)(i:Int)(j:Nat)(v:V)(h:JI r=some (vs,i))(n:ja r)(hi:i=Int.ofNat j)(hv:vs[j]? =some v)(hl:vs.length<500)(hk:Gd S pre (bE r v) Q):Gd S pre r Q:=⟨MF vs i h n.out j v hi hv hl hk.out⟩
theorem BS{r:aA α}(vs:List V)(m:ai)(st:St)(Inv:List V→ai→St→Prop)(h:Zh r=some (vs,m,st))(n:ja r)(h0:Inv vs m st)
  (h1:∀v rest m st,Inv (v::rest) m st→Gd S pre (i8 r v m st) (fun p=>match p.1.1 with
    |.next=>Inv rest (lu r p.1.2) p.2
    |.cont=>Inv rest (lu r p.1.2) p.2
    |.brk=>Gd S pre (i9 r ((.next,p.1.2),p.2)) Q
    |.ret u=>Gd S pre (i9 r ((.ret u,p.1.2),p.2)) Q))
  (h2:∀m st,Inv [] m st→Gd S pre (i9 r ((.next,m),st)) Q):Gd S pre r Q:=by
 refine⟨gk n.out (PO h h0 (fun v rest m st hi=>Good.mono (fun p hp=> ?_) (h1 v rest m st hi).out) fun m st hi=>(h2 m st hi).out)⟩;obtain⟨⟨o,m'⟩,st'⟩:=p;induction o using Out.casesOn with
 |next=>exact hp
 |cont=>exact hp
 |brk=>exact hp.out
 |ret u=>exact hp.out
theorem nd(h:eY r=p)(q:p):ja r:=⟨by rw[h];exact q⟩
theorem gW(h:eY r=True):ja r:=⟨by rw[h];trivial⟩
end
def aI:Nat→Addr→List V→St→Prop:=fun _ _ _ _=>True
noncomputable def kL(p:Program)(w:World)(S:Spec)(pre:Nat→Addr→List V→St→Prop)(asks:List Addr)(K:Frag):Cx:=⟨p,w,S,pre,aa1 asks K⟩
mutual
inductive Fz (σ:Nat→Addr) (n:Nat) (st:St):Bool→V→V→Prop
 |closed {m:Bool} {v:V} (h:aJ v=true):Fz σ n st m v v
 |loc {k:Nat} (h:k<n):Fz σ n st false (.loc k) (.loc k)
 |num {m:Bool} (i:Int):Fz σ n st m (.num i) (.int i)
 |nC {m:Bool} (b:Bool):Fz σ n st m (.nC b) (.bool b)
 |aL {m:Bool} (k:Nat):Fz σ n st m (.loc k) (.aL (.ref (σ k)))
 |tup {m:Bool} {vs ws:List V} (h:yK σ n st m vs ws):Fz σ n st m (.tup vs) (.tup ws)
 |lst {m:Bool} {k:Nat} {vs ws:List V} (hk:n≤k) (e:st[k]? =some (.list [] vs)) (h:yK σ n st true vs ws):Fz σ n st m (.loc k) (.lst ws)
 |fy {m:Bool} {k:Nat} {fs gs:ai} (hk:n≤k) (hs:σ k≠sysModules) (e:st[k]? =some (.dict fs)) (h:E7 σ n st true fs gs):Fz σ n st m (.loc k) (.fy gs)
 |inst {m:Bool} {k d:Nat} {C:Addr} {fs gs:ai} (hk:n≤k) (hd:n≤d) (e:st[k]? =some (.inst C d)) (e':st[d]? =some (.dict fs)) (h:E7 σ n st true fs gs):Fz σ n st m (.loc k) (.inst C gs)
inductive yK (σ:Nat→Addr) (n:Nat) (st:St):Bool→List V→List V→Prop
 |nil {m:Bool}:yK σ n st m [] []
 |cons {m:Bool} {v w:V} {vs ws:List V} (h:Fz σ n st m v w) (r:yK σ n st m vs ws):yK σ n st m (v::vs) (w::ws)
inductive E7 (σ:Nat→Addr) (n:Nat) (st:St):Bool→ai→ai→Prop
 |nil {m:Bool}:E7 σ n st m [] []
 |cons {m:Bool} {x:Str} {v w:V} {vs ws:ai} (h:Fz σ n st m v w) (r:E7 σ n st m vs ws):E7 σ n st m ((x,v)::vs) ((x,w)::ws)
end
inductive HC (σ:Nat→Addr) (n:Nat) (st:St):AO→AO→Prop
 |inst (C:Addr) (d:Nat) (h:d<n):HC σ n st (.inst C d) (.inst C d)
 |list {pre:LV} {vs ws:List V} (h:yK σ n st false vs ws):HC σ n st (.list pre vs) (.list pre ws)
 |dict {fs gs:ai} (h:E7 σ n st false fs gs):HC σ n st (.dict fs) (.dict gs)
def CK(σ:Nat→Addr)(n:Nat)(st st':St):Prop:=st'.length=n∧n≤st.length∧∀(k:Nat) (o o':AO),k<n→st[k]? =some o→st'[k]? =some o'→HC σ n st o o'
open Classical in
noncomputable def fM(I:IM)(σ:Nat→Addr)(n:Nat)(st:St)(h:Heap):IM:=fun b=>match I b with
 |some o=>some o
 |none=>if∃k,n≤k∧k<st.length∧σ k=b then h.get? b else none
section
variable{P:Params}{st:St}
theorem wJ:∀b o,I b=some o→fM I σ n st h b=some o:=fun b o e=>by unfold fM;rw[e]
theorem wK(e:fM I σ n st h b=some o):I b=some o∨(I b=none∧h.get? b=some o∧∃k,n≤k∧k<st.length∧σ k=b):=by
 unfold fM at e
 split at e
 ·rename_i o' q;rw[q];exact .inl e
 ·rename_i q
  split at e
  ·rename_i hk;exact .inr ⟨q,e,hk⟩
  ·exact nn e
open Classical in
theorem sR(r:cG P I σ st h)(hk:n≤k)(hl:k<st.length)(g:h.get? (σ k)=some o):fM I σ n st h (σ k)=some o:=by
 unfold fM;rw[r.out k hl];show(if _ then _ else _)=_;rw[if_pos ⟨k,hk,hl,rfl⟩];exact g
noncomputable def ly(m:Bool)(σ:Nat→Addr):Nat→Addr:=if m=true then fun _=>0 else σ
noncomputable def cnt(m:Bool)(n:Nat):Nat:=if m=true then 0 else n
theorem aq.toM(m:Bool)(r:aq I P (fun _=>0) 0 v x):aq I P (ly m σ) (cnt m n) v x:=by
 induction m using qd
 ·exact r.up
 ·exact r
inductive uY (I:IM) (P:Params) (σ:Nat→Addr) (st:St) (h:Heap) (k:Nat) (o:AO):Value→Prop
 |mk {ob:Obj} (hl:k<st.length) (g:h.get? (σ k)=some ob) (r:Ra I P σ st.length o ob):uY I P σ st h k o (.ref (σ k))
theorem uu(r:cG P I σ st h)(e:st[k]? =some o)(hv:aq I P σ st.length (.loc k) y):uY I P σ st h k o y:=by
 have q:=hv.inv;clear hv;induction q using iG.casesOn with
 |mk hl=>obtain⟨ob,g,gB⟩:=r.cells k o e;exact .mk hl g gB.inv
theorem Ww(r:cG P I σ st h)(hk:n≤k)(e:st[k]? =some (.list [] vs))(ih:∀ys,aG I P σ st.length vs ys→aG (fM I σ n st h) P (ly true σ) (cnt true n) ws ys)(hv:aq I P σ st.length (.loc k) y):
  aq (fM I σ n st h) P (ly m σ) (cnt m n) (.lst ws) y:=by
 have q:=uu r e hv;clear hv;induction q using uY.casesOn with
 |mk hl g q=>induction q using jZ.casesOn with|mk ep hp rr=>exact .lst (sR r hk hl g) (ih _ rr)
theorem Wx(r:cG P I σ st h)(hk:n≤k)(hs:σ k≠sysModules)(e:st[k]? =some (.dict fs))(ih:∀ys,bF I P σ st.length fs ys→bF (fM I σ n st h) P (ly true σ) (cnt true n) gs ys)(hv:aq I P σ st.length (.loc k) y):
  aq (fM I σ n st h) P (ly m σ) (cnt m n) (.fy gs) y:=by
 have q:=uu r e hv;clear hv;induction q using uY.casesOn with
 |mk hl g q=>induction q using kP.casesOn with|mk ep rr=>exact .fy (beq_eq_false_iff_ne.mpr hs) (sR r hk hl g) (ih _ rr)
theorem Uh(r:cG P I σ st h)(hk:n≤k)(hd:n≤d)(e:st[k]? =some (.inst C d))(e':st[d]? =some (.dict fs))(ih:∀ys,bF I P σ st.length fs ys→bF (fM I σ n st h) P (ly true σ) (cnt true n) gs ys)
  (hv:aq I P σ st.length (.loc k) y):aq (fM I σ n st h) P (ly m σ) (cnt m n) (.inst C gs) y:=by
 have q:=uu r e hv;clear hv;induction q using uY.casesOn with
 |mk hl g q=>induction q using rG.casesOn with
  |mk Ly=>
   obtain⟨Wy,g',Az⟩:=r.cells d _ e';have q':=Az.inv;clear Az;induction q' using kP.casesOn with|mk ep rr=>exact .inst (sR r hk hl g) (sR r hd Ly g') (ih _ rr)
theorem E8(r:cG P I σ st h)(f:Fz σ n st m v w)(hv:aq I P σ st.length v y):aq (fM I σ n st h) P (ly m σ) (cnt m n) w y:=
 Fz.rec (motive_1:=fun m v w _=>∀y,aq I P σ st.length v y→aq (fM I σ n st h) P (ly m σ) (cnt m n) w y)
  (motive_2:=fun m vs ws _=>∀y,aG I P σ st.length vs y→aG (fM I σ n st h) P (ly m σ) (cnt m n) ws y)
  (motive_3:=fun m vs ws _=>∀y,bF I P σ st.length vs y→bF (fM I σ n st h) P (ly m σ) (cnt m n) ws y)
  (fun q y hv=>((kg hv q).mono (Le.zero wJ)).toM _) (fun q y hv=>(by obtain⟨_⟩:=hv.inv;exact .loc _ q))
  (fun i y hv=>(by obtain⟨_⟩:=hv.inv;exact .int _ _)) (fun b y hv=>(hv.inv:y=_)▸.bool _) (fun k y hv=>(by obtain⟨_⟩:=hv.inv;exact .aL _))
  (fun _ ih y hv=>(by obtain⟨g,rr⟩:=hv.inv;exact .tup (wJ _ _ g) (ih _ rr)))
  (fun hk e _ ih y hv=>Ww r hk e ih hv) (fun hk hs e _ ih y hv=>Wx r hk hs e ih hv) (fun hk hd e e' _ ih y hv=>Uh r hk hd e e' ih hv)
  (fun y hv=>(hv.inv:y=_)▸.nil) (fun _ _ h1 h2 y hv=>(by obtain⟨hx,hr⟩:=hv.inv;exact .cons (h1 _ hx) (h2 _ hr)))
  (fun y hv=>(hv.inv:y=_)▸.nil) (fun _ _ h1 h2 y hv=>(by obtain⟨hx,hr⟩:=hv.inv;exact .cons (h1 _ hx) (h2 _ hr))) f y hv
theorem Ui(r:cG P I σ st h):∀{ws:List V} {ys:LV},yK σ n st m vs ws→aG I P σ st.length vs ys→aG (fM I σ n st h) P (ly m σ) (cnt m n) ws ys:=by
 induction vs with
 |nil=>intro ws ys f hv;cases f;replace hv:=hv.inv;cases hv;exact .nil
 |cons v vs ih=>intro ws ys f hv;cases f with|cons q qs=>replace hv:=hv.inv;cases hv with|mk hx hr=>exact .cons (E8 r q hx) (ih qs hr)
theorem Uj(r:cG P I σ st h):∀{ws:ai} {ys:List DictEntry},E7 σ n st m vs ws→bF I P σ st.length vs ys→bF (fM I σ n st h) P (ly m σ) (cnt m n) ws ys:=by
 induction vs with
 |nil=>intro ws ys f hv;cases f;replace hv:=hv.inv;cases hv;exact .nil
 |cons v vs ih=>intro ws ys f hv;cases f with|cons q qs=>replace hv:=hv.inv;cases hv with|mk hx hr=>exact .cons (E8 r q hx) (ih qs hr)
open Classical in
theorem cG.freeze(r:cG P I σ st h)(f:CK σ n st st'):cG P (fM I σ n st h) σ st' h:=by
 obtain⟨hl,hn,f⟩:=f;refine⟨fun b o e=> ?_,fun k o e=> ?_,fun j k hj hk e=>r.inj j k (by lia) (by lia) e,fun k hk=> ?_⟩
 ·rcases wK e with q|⟨_,q,_⟩
  ·exact r.sub b o q
  ·exact q
 ·have hk:k<n:=by rw[←hl];exact(List.getElem?_eq_some_iff.mp e).1
  have nE:k<st.length:=by exact qy ‹_› ‹_›
  have e0:st[k]? =some st[k]:=qw nE;obtain⟨ob,g,gB⟩:=r.cells k _ e0;refine⟨ob,g, ?_⟩;have q:=f k _ _ hk e0 e;generalize st[k]=o0 at gB q;rw[hl];induction q using HC.casesOn with
  |inst C d hd=>induction gB.inv using rG.casesOn;exact .inst C d hd
  |list q=>
   induction gB.inv using jZ.casesOn with
   |mk ep hp rr=>exact .list ep hp (Ui (m:=false) r q rr)
  |dict q=>
   induction gB.inv using kP.casesOn with
   |mk ep rr=>exact .dict ep (Uj (m:=false) r q rr)
 ·rw[hl]at hk;unfold fM;rw[r.out k (by lia)];show(if _ then _ else _)=_;rw[if_neg];rintro⟨j,h1,h2,h3⟩;have:=r.inj j k h2 (by lia) h3;lia
theorem aM.freeze(x:aM P X mV jt n h₀ I σ st h)(f:CK σ n st st'):aM P X mV jt n h₀ (fM I σ n st h) σ st' h:=by
 have hl:=f.1;refine⟨⟨fun b o e=>wJ _ _ (x.le.i b o e),x.le.s,by rw[hl];exact qf _⟩,fun b o e=> ?_,fun k a b=>absurd a (by lia),x.rel.freeze f,x.keep,x.alive⟩;rcases wK e with q|⟨_,_,k,h1,h2,h3⟩
 ·exact x.fresh b o q
 ·rw[←h3];exact .inr (x.new k h1 h2)
end
theorem tN(Sd:aU cx ev){A:Around}{I:IM}{σ:Nat→Addr}{st:St}{s:Shared}{E:dU}{a:Addr}{fd:FuncData×List V}{args:List V}{ys:LV}{Q:dU}{W:V→St→Prop}
  (hf:n6 a cx.tab.fns=some fd)(H:au cx (k+1) A I σ st s)(r:aG I cx.P σ st.length args ys)
  (g:Good cx.S cx.pre (fV ev k fd.1 fd.2 [] args st) fun p=>∀af,(∀k,k<p.2.length→af k≠sysModules)→∃v' iH,Fz af st.length p.2 false p.1 v'∧CK af st.length p.2 iH∧W v' iH)
  (hW:∀v' iH,W v' iH→EV cx I σ st s Q (v',iH)):wpAny cx.M A (call (.ref a) ys) Q E s:=by
 refine wpAny_call (Er Sd hf H r (Q:=Q) (fun v s' q=>q) (Good.mono (fun p gp I' af y s' x sm ry=> ?_) g));have rL:∀k,k<p.2.length→af k≠sysModules:=fun k hk z=>by
  obtain⟨o,ho⟩:=(H.base.mono x.le.i).tK;have:=x.rel.out k hk;rw[z,ho]at this;exact ns this
 obtain⟨v',iH,f1,f2,w⟩:=gp af rL;have fr:=E8 (m:=false) (n:=st.length) x.rel f1 ry;exact hW v' iH w _ af y s' (x.freeze f2) sm (by show aq _ _ _ iH.length _ _;rw[f2.1];exact fr)
set_option genCtorIdx true
inductive Val where
 |none|bool (b:Bool)|int (i:Int)
inductive Rz where
 |int (i:Int)|str (x:Str)
inductive bu where
 |val (x:Val)|raise (z:Rz)
inductive dK where
 |vals (xs:List Val)|raise (z:Rz)
inductive wL where
 |hit|miss|raise (z:Rz)
set_option genCtorIdx false
inductive aH where
 |int (i:Int)|nil|gX (i:Int)
inductive aB where
 |leaf (l:aH)|jb (l:aH)|iM (ls:List aH)
inductive cL where
 |bind (n:Str)|lit (l:aH)|alt (ls:List aH)
inductive Tr (α:Type)where
 |leaf (l:aH)
 |jR (s:Option α) (ws:List (List aB×α)) (o:Option α)
 |jB (s:α) (arms:List (cL×Option Int×α)) (o:Option α)
 |j7 (s:α) (p:cL)
 |jC (s:α) (p:cL)
inductive Mark where
 |made (i:Int)|asked (first value:Val)|guard (i:Int)|bound (n:Str) (v:Val)
noncomputable def Val.v:Val→V:=fun x=>match x with
 |.none=>.none
 |.bool b=>.bool b
 |.int i=>.int i
noncomputable def Rz.v:Rz→V:=fun x=>match x with
 |.int i=>.int i
 |.str s=>.str s
noncomputable def aH.it:aH→List V:=fun l=>match l with
 |.int i=>[.str "int",.int i]
 |.nil=>[.str "nil"]
 |.gX i=>[.str "toss",.int i]
noncomputable def aH.v(l:aH):V:=.tup l.it
noncomputable def aB.v:aB→V:=fun t=>match t with
 |.leaf l=>l.v
 |.jb l=>.tup [.str "splat",l.v]
 |.iM ls=>.tup [.str "splat",.tup [.str "list",.lst (ls.map aH.v)]]
noncomputable def cL.v:cL→V:=fun p=>match p with
 |.bind n=>.tup [.str "bind",.str n]
 |.lit l=>.tup [.str "lit",l.v]
 |.alt ls=>.tup [.str "alt",.lst (ls.map fun l=>.tup [.str "lit",l.v])]
noncomputable def mX{α:Type}(f:α→V):Option α→V:=fun o=>match o with
 |none=>.none
 |some a=>f a
noncomputable def wM:Option Int→V:=fun o=>match o with
 |none=>.none
 |some n=>.tup [.str "guard",.int n]
noncomputable def Tr.it{α:Type}(f:α→V):Tr α→List V:=fun t=>match t with
 |.leaf l=>l.it
 |.jR s ws o=>[.str "case",mX f s,.lst (ws.map fun w=>.tup [.lst (w.1.map aB.v),f w.2]),mX f o]
 |.jB s arms o=>[.str "casein",f s,.lst (arms.map fun a=>.tup [a.1.v,wM a.2.1,f a.2.2]),mX f o]
 |.j7 s p=>[.str "matchp",f s,p.v]
 |.jC s p=>[.str "matchq",f s,p.v]
noncomputable def Tr.v{α:Type}(f:α→V)(t:Tr α):V:=.tup (t.it f)
noncomputable def Mark.v:Mark→V:=fun m=>match m with
 |.made i=>.tup [.str "made",.int i]
 |.asked a b=>.tup [.str "asked",a.v,b.v]
 |.guard i=>.tup [.str "guard",.int i]
 |.bound n b=>.tup [.str "bound",.str n,b.v]
noncomputable def bu.v:bu→V:=fun w=>match w with
 |.val x=>.tup [.str "value",x.v]
 |.raise z=>.tup [.str "raise",z.v]
abbrev Rd:=List Mark×bu
noncomputable def Val.holds:Val→Bool
 |.none=>false
 |.bool b=>b
 |.int _=>true
noncomputable def Val.weight:Val→Int
 |.none=>7
 |.bool true=>5
 |.bool false=>6
 |.int i=>i
noncomputable def wN(n:Int):Val:=if n=0 then .bool true else if n=1 then .int 0 else if n=2 then .none else .bool false
noncomputable def Uk:Val→Bool
 |.int i=>i==8
 |_=>false
noncomputable def cN(first value:Val):bu:=if Uk first=true then .raise (.int 80)else .val (wN ((first.weight+value.weight)%4))
noncomputable def dM(n:Int):bu:=if n=5 then .raise (.int 90)else .val (if n=4 then .int 7 else wN n)
noncomputable def eB:Val→Str
 |.none=>"nil"
 |.bool true=>"true"
 |.bool false=>"false"
 |.int i=>Str.ofString (toString i)
noncomputable def jD(x:Val):Rz:=.str ("NoMatchingPatternError "++eB x)
noncomputable def aH.rd:aH→Rd
 |.int i=>([.made i],.val (.int i))
 |.nil=>([],.val .none)
 |.gX i=>([],.raise (.int i))
noncomputable def bZ:List aH→List Mark×dK
 |[]=>([],.vals [])
 |l::ls=>match l.rd with
  |(mk,.raise z)=>(mk,.raise z)
  |(mk,.val x)=>match bZ ls with
   |(E9,.raise z)=>(mk++E9,.raise z)
   |(E9,.vals xs)=>(mk++E9,.vals (x::xs))
noncomputable def aB.rd:aB→List Mark×dK
 |.leaf l=>bZ [l]
 |.iM ls=>bZ ls
 |.jb l=>match l.rd with
  |(mk,.raise z)=>(mk,.raise z)
  |(mk,.val x)=>(mk,.vals (match x with|.none=>[]|_=>[x]))
noncomputable def wO(ay:Option Val)(v:Val):Rd:=match ay with
 |some s=>([.asked v s],cN v s)
 |none=>([],.val v)
noncomputable def j8(ay:Option Val):List Val→List Mark×wL
 |[]=>([],.miss)
 |v::vs=>match wO ay v with
  |(mk,.raise z)=>(mk,.raise z)
  |(mk,.val x)=>if x.holds=true then(mk,.hit)else(mk++(j8 ay vs).1,(j8 ay vs).2)
noncomputable def jl(ay:Option Val):List aB→List Mark×wL
 |[]=>([],.miss)
 |t::ts=>match t.rd with
  |(mk,.raise z)=>(mk,.raise z)
  |(mk,.vals vs)=>match j8 ay vs with
   |(E9,.miss)=>(mk++E9++(jl ay ts).1,(jl ay ts).2)
   |(E9,o)=>(mk++E9,o)
noncomputable def lM{α:Type}(rd:α→Rd)(z:bu):Option α→Rd
 |none=>([],z)
 |some a=>rd a
noncomputable def after(mk:List Mark)(r:Rd):Rd:=(mk++r.1,r.2)
noncomputable def eZ{α:Type}(rd:α→Rd)(ay:Option Val)(o:Option α):List (List aB×α)→Rd
 |[]=>lM rd (.val .none) o
 |(ts,b)::ws=>match jl ay ts with
  |(mk,.raise z)=>(mk,.raise z)
  |(mk,.hit)=>after mk (rd b)
  |(mk,.miss)=>after mk (eZ rd ay o ws)
inductive fc where
 |val (b:Bool)|raise (z:Rz)
noncomputable def aH.fits(l:aH)(value:Val):List Mark×fc:=match l.rd with
 |(mk,.raise z)=>(mk,.raise z)
 |(mk,.val x)=>match cN x value with
  |.raise z=>(mk++[.asked x value],.raise z)
  |.val y=>(mk++[.asked x value],.val y.holds)
noncomputable def cV(value:Val):List aH→List Mark×fc
 |[]=>([],.val false)
 |l::ls=>match l.fits value with
  |(mk,.raise z)=>(mk,.raise z)
  |(mk,.val true)=>(mk,.val true)
  |(mk,.val false)=>(mk++(cV value ls).1,(cV value ls).2)
noncomputable def cL.fits(value:Val):cL→List Mark×fc
 |.bind n=>([.bound n value],.val true)
 |.lit l=>l.fits value
 |.alt ls=>cV value ls
noncomputable def cJ{α:Type}(rd:α→Rd)(value:Val)(o:Option α):List (cL×Option Int×α)→Rd
 |[]=>lM rd (.raise (jD value)) o
 |(p,g,b)::as=>match p.fits value with
  |(mk,.raise z)=>(mk,.raise z)
  |(mk,.val false)=>after mk (cJ rd value o as)
  |(mk,.val true)=>match g with
   |none=>after mk (rd b)
   |some n=>match dM n with
    |.raise z=>(mk++[.guard n],.raise z)
    |.val x=>if x.holds=true then after (mk++[.guard n]) (rd b)else after (mk++[.guard n]) (cJ rd value o as)
noncomputable def cY(r:Rd)(f:Val→Rd):Rd:=match r with
 |(mk,.raise z)=>(mk,.raise z)
 |(mk,.val x)=>after mk (f x)
noncomputable def gK(p:cL)(x:Val):Rd:=match p.fits x with
 |(mk,.raise z)=>(mk,.raise z)
 |(mk,.val b)=>(mk,.val (.bool b))
noncomputable def d9(p:cL)(x:Val):Rd:=match p.fits x with
 |(mk,.raise z)=>(mk,.raise z)
 |(mk,.val true)=>(mk,.val .none)
 |(mk,.val false)=>(mk,.raise (jD x))
noncomputable def Tr.rd{α:Type}(rd:α→Rd):Tr α→Rd
 |.leaf l=>l.rd
 |.jR none ws o=>eZ rd none o ws
 |.jR (some s) ws o=>cY (rd s) fun x=>eZ rd (some x) o ws
 |.jB s arms o=>cY (rd s) fun x=>cJ rd x o arms
 |.j7 s p=>cY (rd s) (gK p)
 |.jC s p=>cY (rd s) (d9 p)
def Val.ok:Val→Prop
 |.int i=>0≤i∧i≤8
 |_=>True
def aH.ok:aH→Prop
 |.int i=>0≤i∧i≤8
 |.nil=>True
 |.gX i=>0≤i∧i≤100
def aB.ok:aB→Prop
 |.leaf l=>l.ok
 |.jb l=>l.ok
 |.iM ls=>ls.length≤3∧∀l∈ls,l.ok
def ni(n:Str):Prop:=∀c∈n.cps.toList,c<16^8
theorem lz(s:String):ni (Str.ofString s):=by
 intro c hc;rw[Str.ofString_eq_toList]at hc;simp only[List.mem_map]at hc;obtain⟨a,_,rfl⟩:=hc;have:=UInt32.toNat_lt a.val;show a.val.toNat<16^8;omega
theorem CL(h:ni a)(k:ni b):ni (a++b):=by
 intro c hc;have:c∈(a.cps++b.cps).toList:=hc;rw[Array.toList_append]at this;rcases List.mem_append.mp this with q|q
 ·exact h c q
 ·exact k c q
def cL.ok:cL→Prop
 |.bind n=>n.length≤100∧ni n
 |.lit l=>l.ok
 |.alt ls=>ls.length≤3∧∀l∈ls,l.ok
def oS{α:Type}(ok:α→Prop):Option α→Prop
 |none=>True
 |some a=>ok a
def oH:Option Int→Prop
 |none=>True
 |some n=>0≤n∧n≤5
def Tr.ok{α:Type}(ok:α→Prop):Tr α→Prop
 |.leaf l=>l.ok
 |.jR s ws o=>oS ok s∧(ws.length≤3∧∀w∈ws,((1≤w.1.length∧w.1.length≤2)∧∀t∈w.1,t.ok)∧ok w.2)∧oS ok o
 |.jB s arms o=>ok s∧(arms.length≤3∧∀a∈arms,a.1.ok∧oH a.2.1∧ok a.2.2)∧oS ok o
 |.j7 s p=>ok s∧p.ok
 |.jC s p=>ok s∧p.ok
noncomputable def Tree:Nat→Type
 |0=>aH
 |n+1=>Tr (Tree n)
noncomputable def Tree.it:(n:Nat)→Tree n→List V
 |0=>aH.it
 |n+1=>Tr.it fun a=>.tup (Tree.it n a)
noncomputable def Tree.v(n:Nat)(t:Tree n):V:=.tup (Tree.it n t)
noncomputable def Tree.rd:(n:Nat)→Tree n→Rd
 |0=>aH.rd
 |n+1=>Tr.rd (Tree.rd n)
def Tree.ok:(n:Nat)→Tree n→Prop
 |0=>aH.ok
 |n+1=>Tr.ok (Tree.ok n)
noncomputable abbrev dF:ai→Bool:=pO 0
noncomputable def ki:AO→Bool:=fun o=>match o with
 |.inst _ _=>false
 |.list _ vs=>bB vs
 |.dict fs=>dF fs
section
variable{P:Params}{st:St}
theorem GJ(h:bF I P σ n v x)(e:dF v=true):bF I P (fun _=>0) 0 v x:=D9 (fun _ _ e=>e) (fun k q=>absurd q (qp k)) (qf 0) h e
theorem yL(h:dw I P σ n o x)(c:ki o=true):dw I P af m o x:=by
 induction h using dw.casesOn with
 |inst C d hd=>exact ft c
 |list ep hp r=>exact .list ep hp (mj r c).up
 |dict ep r=>exact .dict ep (GJ r c).up
theorem JM(r:cG P I σ st h)(e:st[l]? =some o)(c:ki o=true):cG P I (fun _=>σ l) [o] h:=by
 have hl:l<st.length:=(List.getElem?_eq_some_iff.mp e).1;refine⟨r.sub,fun k x q=> ?_,fun j k hj hk _=> ?_,fun k hk=>r.out l hl⟩
 ·induction k using qk with
  |zero=>
   obtain rfl:=qc q;obtain⟨ob,g,gB⟩:=r.cells l o e;exact⟨ob,g,yL gB c⟩
  |succ k=>exact nn q
 ·simp at hj hk;lia
theorem HD(r:cG P I σ st h)(e:st[l]? =some o)(x:aM P X I (fun _=>σ l) 1 h I' af [o'] h')(c:ki o'=true)(hX:∀k,k<st.length→¬X (σ k)):
  aM P X I σ st.length h I' σ (cF st l o') h':=by
 have hl:l<st.length:=(List.getElem?_eq_some_iff.mp e).1;have ln:(cF st l o').length=st.length:=by rw[eH];simp
 have s0:af 0=σ l:=x.le.s 0 (by decide);have apart:∀k,k<st.length→I' (σ k)=none:=fun k hk=>by
  induction q:I' (σ k)using qe with
  |none=>rfl
  |some ob=>
   rcases x.fresh _ _ q with z|z
   ·rw[r.out k hk]at z;exact nn z
   ·obtain⟨o1,g⟩:=r.live hk;rw[z]at g;exact nn g
 refine⟨⟨x.le.i,fun _ _=>rfl,by rw[ln];exact qf _⟩,x.fresh,fun k a b=>absurd a (by lia),⟨x.rel.sub,fun k q hq=> ?_,fun j k hj hk=>r.inj j k (ln▸hj) (ln▸hk),fun k hk=>apart k (ln▸hk)⟩,fun b ob hb hx hk=>x.keep b ob hb hx fun k nE=> ?_,x.alive⟩
 ·rw[eH,List.getElem?_set]at hq;rw[ln];by_cases z:l=k
  ·subst z;rw[if_pos rfl,if_pos hl]at hq;obtain rfl:=qc hq;obtain⟨ob,g,gB⟩:=x.rel.cells 0 o' rfl;rw[s0]at g;exact⟨ob,g,yL gB c⟩
  ·rw[if_neg z]at hq;have hk:k<st.length:=(List.getElem?_eq_some_iff.mp hq).1;obtain⟨ob,g,gB⟩:=r.cells k q hq;refine⟨ob,x.keep _ ob g (hX k hk) fun j hj w=>z (r.inj l k hl hk w),gB.mono ⟨x.le.i,fun _ _=>rfl,qf _⟩⟩
 ·exact hk l hl
end
theorem Ul(Sd:aU cx ev){I:IM}{σ:Nat→Addr}{st:St}{s:Shared}{E:dU}{a:Addr}{fd:FuncData×List V}{as:List V}{ys:LV}{Q:dU}{o:AO}{W:V→AO→Prop}
  (hf:n6 a cx.tab.fns=some fd)(H:au cx (k+1) A I σ st s)(e:st[l]? =some o)(c:ki o=true)(ca:bB as=true)(r:aG I cx.P σ st.length (.loc l::as) ys)
  (g:Good cx.S cx.pre (fV ev k fd.1 fd.2 [] (.loc 0::as) [o]) fun p=>∀af,∃v' o',Fz af 1 p.2 false p.1 v'∧CK af 1 p.2 [o']∧aJ v'=true∧ki o'=true∧W v' o')
  (hW:∀v' o',W v' o'→EV cx I σ st s Q (v',cF st l o')):wpAny cx.M A (call (.ref a) ys) Q E s:=by
 have H1:au cx (k+1) A I (fun _=>σ l) [o] s:=⟨H.fit,H.base,JM H.rel e c⟩;replace r:=r.inv;induction r using dP.casesOn with
 |mk h1 r=>
   obtain⟨rfl,hl⟩:=tX h1;have r1:aG I cx.P (fun _=>σ l) [o].length (.loc 0::as) (.ref (σ l)::_):=.cons (aq.loc (σ:=fun _=>σ l) 0 (by show 0<1;decide)) (mj r ca).up;refine tN Sd (W:=fun v' iH=>∃o',iH=[o']∧aJ v'=true∧ki o'=true∧W v' o') hf H1 r1 (Good.mono (fun p gp af hs=> ?_) g) fun v' iH w=> ?_
   ·obtain⟨v',o',f1,f2,c1,c2,w⟩:=gp af;exact⟨v',[o'],f1,f2,o',rfl,c1,c2,w⟩
   ·obtain⟨o',rfl,c1,c2,w⟩:=w;intro I' af y s' x sm ry;have x2:=HD H.rel e x c2 (fun _ _ q=>q);exact hW v' o' w I' σ y s' x2 sm (kg ry c1).up
theorem BU(h:HC σ 1 (o::rest) o o'):CK σ 1 (o::rest) [o']:=by
 refine⟨rfl,by exact rB,fun k x x' hk e e'=> ?_⟩;obtain rfl:k=0:=by lia
 obtain rfl:=qc e;obtain rfl:=qc e';exact h
theorem ff{st:St}{m:Bool}:∀{vs:List V},bB vs=true→yK σ n st m vs vs
 |[],_=>.nil
 |v::vs,h=>.cons (.closed (bk h).1) (ff (bk h).2)
set_option genCtorIdx true in
inductive Vw (α:Type)where
 |ok (p:Prop) (a:α)
 |ask (p:Prop) (d:Nat) (f:Addr) (as:List V) (st:St)
 |fork (p:Prop) (b:Bool)
 |pick (p:Prop) (vs:List V) (i:Int)
 |loop (p:Prop) (vs:List V) (m:ai) (st:St)
 |bad
noncomputable def HE{α:Type}(p:Prop):aA α→Vw α
 |.ok a=>.ok p a
 |.ask d f as st _=>.ask p d f as st
 |.fork b _=>.fork p b
 |.pick vs i _=>.pick p vs i
 |.loop _ _ vs m st _=>.loop p vs m st
 |_=>.bad
noncomputable def vw{α:Type}(r:aA α):Vw α:=HE (eY r) (strip r)
section
variable{α:Type}
theorem Wz(h:HE p s=.ok q a):s=.ok a∧p=q:=by
 induction s using aA.casesOn with
 |ok=>injection h with a b;exact⟨congrArg aA.ok b,a⟩
 |_=>cases h
theorem xT{f:Addr}{as:List V}{st:St}(h:HE p s=.ask q D f as st):∃k,s=.ask D f as st k∧p=q:=by
 induction s using aA.casesOn with
 |ask=>injection h with a b c d e;exact⟨_,by rw[b,c,d,e],a⟩
 |_=>cases h
theorem PS{m:ai}{st:St}(h:HE p s=.loop q vs m st):∃t kp k,s=.loop t kp vs m st k∧p=q:=by
 induction s using aA.casesOn with
 |loop=>injection h with a b c d;exact⟨_,_,_,by rw[b,c,d],a⟩
 |_=>cases h
theorem Fb(h:HE p s=.fork q b):∃k,s=.fork b k∧p=q:=by
 induction s using aA.casesOn with
 |fork=>injection h with a b;exact⟨_,by rw[b],a⟩
 |_=>cases h
theorem Fc(h:HE p s=.pick q vs i):∃k,s=.pick vs i k∧p=q:=by
 induction s using aA.casesOn with
 |pick=>injection h with a b c;exact⟨_,by rw[b,c],a⟩
 |_=>cases h
noncomputable def zx{α:Type}(w:Vw α):Option (Prop×α):=match w with
 |.ok p a=>some (p,a)
 |_=>none
theorem rg(h:zx w=some x):w=.ok x.1 x.2:=by
 induction w using Vw.casesOn with
 |ok=>obtain rfl:=qc h;rfl
 |_=>exact nn h
noncomputable def Dv{α:Type}(w:Vw α):Option (Prop×Nat×Addr×List V×St):=match w with
 |.ask p d f as st=>some (p,d,f,as,st)
 |_=>none
theorem zy(h:Dv w=some x):w=.ask x.1 x.2.1 x.2.2.1 x.2.2.2.1 x.2.2.2.2:=by
 induction w using Vw.casesOn with
 |ask=>obtain rfl:=qc h;rfl
 |_=>exact nn h
end
section
variable{α:Type}
theorem oU(q:Q a)(hp:p)(h:vw r=.ok p a):Gd S pre r Q:=
 have e:=Wz h
 ⟨gk (e.2▸hp) (e.1▸q)⟩
theorem Fd{f:Addr}{as:List V}{st:St}(W:V→St→Prop)(hs:S D f as st W)(hk:∀v st',W v st'→Gd S pre (jQ r v st') Q)(hp:p)(h:vw r=.ask p D f as st):Gd S pre r Q:=by
 obtain⟨k,e,e2⟩:=xT h;exact⟨gk (e2▸hp) (by rw[e];exact⟨W,hs,fun v st' w=>by have g:=(hk v st' w).out;unfold jQ at g;rw[e]at g;exact g⟩)⟩
theorem HF(hk:∀c,Gd S pre (ah r c) Q)(hp:p)(h:vw r=.fork p b):Gd S pre r Q:=by
 obtain⟨k,e,e2⟩:=Fb h;exact⟨gk (e2▸hp) (by rw[e];have g:=(hk b).out;unfold ah at g;rw[e]at g;exact g)⟩
theorem HG(j:Nat)(hi:i=Int.ofNat j)(hv:vs[j]? =some v)(hl:vs.length<500)(hk:Gd S pre (bE r v) Q)(hp:p)(h:vw r=.pick p vs i):Gd S pre r Q:=by
 obtain⟨k,e,e2⟩:=Fc h;exact⟨gk (e2▸hp) (by rw[e];have g:=hk.out;unfold bE at g;rw[e]at g;exact⟨j,v,hi,hv,hl,g⟩)⟩
theorem HH{m:ai}{st:St}(Inv:List V→ai→St→Prop)(h0:Inv vs m st)
  (h1:∀v rest m st,Inv (v::rest) m st→∀P:cC→Prop,(∀m' st',Inv rest (lu r m') st'→P ((.next,m'),st'))→(∀u m' st',Gd S pre (i9 r ((.ret u,m'),st')) Q→P ((.ret u,m'),st'))→Gd S pre (i8 r v m st) P)
  (h2:∀m st,Inv [] m st→Gd S pre (i9 r ((.next,m),st)) Q)(hp:p)(h:vw r=.loop p vs m st):Gd S pre r Q:=by
 obtain⟨t,kp,k,e,e2⟩:=PS h;exact BS vs m st Inv (congrArg E5 e) ⟨e2▸hp⟩ h0 (fun v rest m st hi=>h1 v rest m st hi _ (fun _ _ x=>x) fun _ _ _ x=>x) h2
theorem ic{β ς:Type}(f:β→V)(mf:ς→ai)(sf:ς→St)(wQ:List β→ς→Prop){xs:List β}{s0:ς}(t0:wQ xs s0)
  (hb:∀x xs s,wQ (x::xs) s→∀P:cC→Prop,(∀s' m,wQ xs s'→lu r m=mf s'→P ((.next,m),sf s'))→(∀u m st,Gd S pre (i9 r ((.ret u,m),st)) Q→P ((.ret u,m),st))→Gd S pre (i8 r (f x) (mf s) (sf s)) P)
  (he:∀s,wQ [] s→Gd S pre (i9 r ((.next,mf s),sf s)) Q)(h:vw r=.loop True (xs.map f) (mf s0) (sf s0):=by kernel_rfl):Gd S pre r Q:=by
 refine HH (fun vs m st=>∃xs s,vs=List.map f xs∧m=mf s∧st=sf s∧wQ xs s) ⟨xs,s0,rfl,rfl,rfl,t0⟩ (fun v rest m st hi P hn hr=> ?_) (fun m st hi=> ?_) trivial h
 ·obtain⟨ys,s,e1,e2,e3,t⟩:=hi;rw[e2,e3];induction ys using qh with
  |nil=>cases e1
  |cons y ys=>
   injection e1 with e1 e4;rw[e1];exact hb y ys s t P (fun s' m tt e=>hn m _ ⟨ys,s',e4,e,rfl,tt⟩) hr
 ·obtain⟨ys,s,e1,e2,e3,t⟩:=hi;induction ys using qh with
  |nil=>rw[e2,e3];exact he s t
  |cons y ys=>cases e1
theorem uv{ς:Type}(mf:ς→ai)(sf:ς→St)(wQ:Nat→ς→Prop){a m:Nat}{s0:ς}(t0:wQ m s0)
  (hb:∀a m s,wQ (m+1) s→∀P:cC→Prop,(∀s' l,wQ m s'→lu r l=mf s'→P ((.next,l),sf s'))→Gd S pre (i8 r (.int (.ofNat a)) (mf s) (sf s)) P)
  (he:∀s,wQ 0 s→Gd S pre (i9 r ((.next,mf s),sf s)) Q)(hm:m<1000)(h:vw r=.loop (m<1000∧True) (intsFrom a m) (mf s0) (sf s0):=by kernel_rfl):Gd S pre r Q:=by
 refine HH (fun vs l st=>∃a m s,vs=intsFrom a m∧l=mf s∧st=sf s∧wQ m s) ⟨a,m,s0,rfl,rfl,rfl,t0⟩ (fun v rest l st hi P hn hr=> ?_) (fun l st hi=> ?_) ⟨hm,trivial⟩ h
 ·obtain⟨a,m,s,e1,e2,e3,t⟩:=hi;rw[e2,e3];induction m using qk with
  |zero=>cases e1
  |succ m=>
   injection e1 with e1 e4;rw[e1];exact hb a m s t P fun s' l tt e=>hn l _ ⟨Nat.succ a,m,s',e4,e,rfl,tt⟩
 ·obtain⟨a,m,s,e1,e2,e3,t⟩:=hi;induction m using qk with
  |zero=>rw[e2,e3];exact he s t
  |succ m=>cases e1
noncomputable def uZ(f:ai→ai)(r:aA cC):Option (Prop×Out×ai×St):=(zx (vw r)).map fun x=>(x.1,x.2.1.1,f x.2.1.2,x.2.2)
theorem HJ{o:Out}{m:ai}{st:St}(h:uZ f u=some (p,o,m,st)):∃m',f m'=m∧vw u=.ok p ((o,m'),st):=by
 obtain⟨x,e,h⟩:=Option.map_eq_some_iff.mp h;have h1:=qQ h;have h2:=qQ h1.2;have h3:=qQ h2.2;exact⟨x.2.1.2,h3.1,by rw[←h1.1,←h2.1,←h3.2];exact rg e⟩
theorem gM{ς:Type}{mf:ς→ai}{sf:ς→St}{t:ς→Prop}{P:cC→Prop}{u:aA cC}{p:Prop}(hn:∀s' m,t s'→lu r m=mf s'→P ((.next,m),sf s'))(s:ς)(ht:t s)(hp:p)(h:uZ (lu r) u=some (p,.next,mf s,sf s)):Gd S pre u P:=
 let⟨m,e,h⟩:=HJ h
 oU (hn s m ht e) hp h
theorem jE{ς:Type}{mf:ς→ai}{sf:ς→St}{t:ς→Prop}{P:cC→Prop}{u:aA cC}(hn:∀s' m,t s'→lu r m=mf s'→P ((.next,m),sf s'))(s:ς)(ht:t s)(h:uZ (lu r) u=some (True,.next,mf s,sf s):=by kernel_rfl):Gd S pre u P:=gM hn s ht trivial h
theorem iu{x:aA cC}(hr:∀u m st,Gd S pre (i9 r ((.ret u,m),st)) Q→P ((.ret u,m),st))(u:V)(st:St)(hk:∀m,Gd S pre (i9 r ((.ret u,m),st)) Q)(h:uZ (fun _=>[]) x=some (True,.ret u,[],st):=by kernel_rfl):Gd S pre x P:=
 let⟨m,_,h⟩:=HJ h
 oU (hr u m st (hk m)) trivial h
end
noncomputable def kE(G:List Int)(c sd b:Int):AO:=.list [] [.lst (G.map V.num),.num c,.num sd,.num b]
inductive Bg (k:Nat):AO→Prop
 |mk {G:List Int} {c sd b:Int} (g:G.length≤24) (c0:0≤c) (c1:c+k≤1000000) (s0:0≤sd) (s1:sd<2147483648):Bg k (kE G c sd b)
theorem Bg.le(h:Bg m o)(e:k≤m):Bg k o:=by
 induction h using Bg.casesOn with|mk g c0 c1 s0 s1=>exact .mk g c0 (by lia) s0 s1
theorem Bg.closed(h:Bg k o):ki o=true:=by induction h using Bg.casesOn;rfl
noncomputable def dv(n:Nat):Nat:=Nat.rec 1 (fun _ e=>e*5+100) n
noncomputable def u0{d:Nat}(w:List aB×Tree d):V:=.tup [.lst (w.1.map aB.v),Tree.v d w.2]
noncomputable def tP{d:Nat}(a:cL×Option Int×Tree d):V:=.tup [a.1.v,wM a.2.1,Tree.v d a.2.2]
noncomputable def pC(d:Nat)(t:Tr (Tree d)):Tree (d+1):=t
def gO{d:Nat}(ws:List (List aB×Tree d)):Prop:=∀w∈ws,((1≤w.1.length∧w.1.length≤2)∧∀t∈w.1,t.ok)∧Tree.ok d w.2
def oJ{d:Nat}(as:List (cL×Option Int×Tree d)):Prop:=∀a∈as,a.1.ok∧oH a.2.1∧Tree.ok d a.2.2
inductive iw where
 |take (m:Nat)|leaf|test|pat|value (n:Nat)|lN (n:Nat)|arms (n:Nat)
noncomputable def iw.fn(x:iw):Addr:=match x with
 |.take _=>1127
 |.leaf=>1148
 |.test=>1153
 |.pat=>1163
 |.value _=>1134
 |.lN _=>1158
 |.arms _=>1170
noncomputable def iw.args(x:iw):List V:=match x with
 |.take m=>[.int (.ofNat m)]
 |.value n=>[.int (.ofNat n)]
 |.lN n=>[.int (.ofNat (n+1))]
 |.arms n=>[.int (.ofNat (n+1))]
 |_=>[]
noncomputable def iw.cost(x:iw):Nat:=match x with
 |.take _=>1
 |.leaf=>2
 |.value n=>dv n
 |.lN n=>dv n*3+70
 |.arms n=>dv n*3+70
 |_=>10
noncomputable def iw.room(x:iw):Nat:=match x with
 |.take _=>3
 |.leaf=>5
 |.value n=>10*n+10
 |.lN n=>10*n+13
 |.arms n=>10*n+13
 |_=>8
noncomputable def iw.rank(x:iw):Nat:=match x with
 |.take _=>0
 |.leaf=>1
 |.value n=>3*n+3
 |.lN n=>3*n+4
 |.arms n=>3*n+4
 |_=>2
def iw.WA(x:iw):Prop:=match x with
 |.take m=>0<m∧m≤10
 |.value n=>n≤2
 |.lN n=>n≤1
 |.arms n=>n≤1
 |_=>True
def iw.is(x:iw)(v:V):Prop:=match x with
 |.take m=>∃i:Nat,i<m∧v=.int (.ofNat i)
 |.leaf=>∃l:aH,l.ok∧v=l.v
 |.test=>∃t:aB,t.ok∧v=t.v
 |.pat=>∃q:cL,q.ok∧v=q.v
 |.value n=>∃t:Tree n,Tree.ok n t∧v=Tree.v n t
 |.lN n=>∃ws:List (List aB×Tree n),(ws.length≤3∧gO ws)∧v=.lst (ws.map u0)
 |.arms n=>∃as:List (cL×Option Int×Tree n),(as.length≤3∧oJ as)∧v=.lst (as.map tP)
noncomputable def jo(n:Nat):Spec:=fun d f as st W=>∃(x:iw) (l:Nat) (o:AO) (k:Nat),x.rank<n∧x.WA∧f=x.fn∧as=.loc l::x.args∧x.room≤d∧di st l=some o∧Bg (k+x.cost) o∧∀v o',x.is v→Bg k o'→W v (cF st l o')
noncomputable def JN:List Addr:=[1127,1148,1153,1163,1134,1158,1170]
noncomputable def HK(p:Program)(w:World)(K:Frag)(n:Nat):Cx:=kL p w (jo n) aI JN K
theorem gr{α:Type}{f:α→V}(h:∀a,aJ (f a)=true)(l:List α):bB (l.map f)=true:=by
 induction l with
 |nil=>rfl
 |cons a l ih=>exact dh (h a) ih
theorem jc(s:Str):aJ (.str s)=true:=rfl
theorem MJ(vs:List V):aJ (.lst vs)=true:=rfl
theorem lO(ha:aJ a=true)(hb:aJ b=true):aJ (.tup [a,b])=true:=dh ha (dh hb rfl)
theorem oK(ha:aJ a=true)(hb:aJ b=true)(hc:aJ c=true):aJ (.tup [a,b,c])=true:=dh ha (lO hb hc)
theorem HL(ha:aJ a=true)(hb:aJ b=true)(hc:aJ c=true)(hd:aJ d=true):aJ (.tup [a,b,c,d])=true:=dh ha (oK hb hc hd)
theorem gf(l:aH):aJ l.v=true:=by induction l using aH.casesOn<;>rfl
theorem mz(t:aB):aJ t.v=true:=by
 induction t using aB.casesOn with
 |leaf l=>exact gf l
 |jb l=>exact lO rfl (gf l)
 |iM ls=>rfl
theorem lP(t:cL):aJ t.v=true:=by
 induction t using cL.casesOn with
 |lit l=>exact lO rfl (gf l)
 |_=>rfl
theorem oV{α:Type}{f:α→V}(h:∀a,aJ (f a)=true)(o:Option α):aJ (mX f o)=true:=by
 induction o using qe with
 |none=>rfl
 |some a=>exact h a
theorem Fe(g:Option Int):aJ (wM g)=true:=by induction g using qe<;>rfl
theorem MK{α:Type}{f:α→V}(h:∀a,aJ (f a)=true)(t:Tr α):aJ (t.v f)=true:=by
 induction t using Tr.casesOn with
 |leaf l=>exact gf l
 |jR s ws o=>exact HL rfl (oV h s) rfl (oV h o)
 |jB s arms o=>exact HL rfl (h s) rfl (oV h o)
 |j7 s p=>exact oK rfl (h s) (lP p)
 |jC s p=>exact oK rfl (h s) (lP p)
theorem fN(n:Nat):∀t:Tree n,aJ (Tree.v n t)=true:=by
 induction n with
 |zero=>exact gf
 |succ n ih=>exact MK ih
theorem iw.closed{x:iw}(h:x.is v):aJ v=true:=by
 induction x using iw.casesOn with
 |take=>obtain⟨_,_,e⟩:=h;subst e;rfl
 |leaf=>obtain⟨_,_,e⟩:=h;subst e;exact gf _
 |test=>obtain⟨_,_,e⟩:=h;subst e;exact mz _
 |pat=>obtain⟨_,_,e⟩:=h;subst e;exact lP _
 |value=>obtain⟨_,_,e⟩:=h;subst e;exact fN _ _
 |lN=>obtain⟨_,_,e⟩:=h;subst e;rfl
 |arms=>obtain⟨_,_,e⟩:=h;subst e;rfl
theorem Um(x:iw):bB x.args=true:=by induction x using iw.casesOn<;>rfl
noncomputable def yM{α:Type}(r:aA α):Option (Prop×Nat×Addr×List V×Option AO):=(Dv (vw r)).map fun x=>(x.1,x.2.1,x.2.2.1,x.2.2.2.1,di x.2.2.2.2 0)
noncomputable def uw(r:aA (V×St)):Option (Prop×V×Option AO):=(zx (vw r)).map fun x=>(x.1,x.2.1,di x.2.2 0)
noncomputable def n8{α:Type}(r:aA α)(v:V)(o:AO):aA α:=jQ r v (cF (lX r) 0 o)
def vM(x:iw)(k:Nat)(p:V×St):Prop:=∀af,∃v' o',Fz af 1 p.2 false p.1 v'∧CK af 1 p.2 [o']∧x.is v'∧Bg k o'
section
variable{α:Type}
theorem sS(x:iw)(D k:Nat)(hr:x.rank<n)(hc:x.WA)(hD:x.room≤D)(b:Bg m o)(hm:k+x.cost≤m)(hk:∀v o',x.is v→Bg k o'→Gd (jo n) aI (n8 r v o') Q)
  (h:yM r=some (True,D,x.fn,.loc 0::x.args,some o):=by kernel_rfl):Gd (jo n) aI r Q:=by
 obtain⟨⟨p,d,f,as,st⟩,e,h⟩:=Option.map_eq_some_iff.mp h;injection h with h1 h;injection h with h2 h;injection h with h3 h;injection h with h4 h;have e:=zy e;obtain⟨c,e',_⟩:=xT e;have es:lX r=st:=congrArg Ay e';exact Fd (fun v st'=>∃o',x.is v∧Bg k o'∧st'=cF st 0 o') ⟨x,0,o,k,hr,hc,h3,h4,h2▸hD,h,b.le hm,fun v o' i b=>⟨o',i,b,rfl⟩⟩ ((by rintro v st' ⟨o',i,b,e⟩;exact e▸es▸hk v o' i b)) (h1▸trivial) e
theorem xU(i:x.is v)(b:Bg k o)(fz:∀af st,vw r=.ok p (u,st)→Fz af 1 st false u v)(hp:p)(h:uw r=some (p,u,some o)):Gd (jo n) aI r (vM x k):=by
 obtain⟨⟨q,u',st⟩,e,j⟩:=Option.map_eq_some_iff.mp h;clear h;injection j with j1 j;injection j with j2 j;have e:=rg e;subst j1 j2;refine oU (fun af=>⟨v,o,fz af st e, ?_,i,b⟩) hp e;induction st using qh with
 |nil=>exact nn j
 |cons o' st=>
  injection j with j;rw[show o'=o from j];induction b using Bg.casesOn
  exact BU (.list (ff rfl))
theorem rY(i:x.is v)(b:Bg k o)(h:uw r=some (True,v,some o):=by kernel_rfl):Gd (jo n) aI r (vM x k):=xU i b (fun _ _ _=>.closed (iw.closed i)) trivial h
end
section
variable{P:Nat→Prop}
@[elab_as_elim] theorem R8(h:i<1)(a:P 0):P i:=by induction i using qk with|zero=>exact a|succ i=>exact absurd h (Nat.not_lt_of_le (qg 1 i))
@[elab_as_elim] theorem WB(h:i<2)(a:P 0)(b:P 1):P i:=by induction i using qk with|zero=>exact a|succ i=>exact R8 (P:=fun i=>P (i+1)) (qF h) b
@[elab_as_elim] theorem WD(h:i<3)(a:P 0)(b:P 1)(c:P 2):P i:=by induction i using qk with|zero=>exact a|succ i=>exact WB (P:=fun i=>P (i+1)) (qF h) b c
@[elab_as_elim] theorem R9(h:i<4)(a:P 0)(b:P 1)(c:P 2)(d:P 3):P i:=by induction i using qk with|zero=>exact a|succ i=>exact WD (P:=fun i=>P (i+1)) (qF h) b c d
@[elab_as_elim] theorem WE(h:i<5)(a:P 0)(b:P 1)(c:P 2)(d:P 3)(e:P 4):P i:=by induction i using qk with|zero=>exact a|succ i=>exact R9 (P:=fun i=>P (i+1)) (qF h) b c d e
@[elab_as_elim] theorem lt6(h:i<6)(a:P 0)(b:P 1)(c:P 2)(d:P 3)(e:P 4)(f:P 5):P i:=by induction i using qk with|zero=>exact a|succ i=>exact WE (P:=fun i=>P (i+1)) (qF h) b c d e f
@[elab_as_elim] theorem ML(h:i<8)(a:P 0)(b:P 1)(c:P 2)(d:P 3)(e:P 4)(f:P 5)(g:P 6)(j:P 7):P i:=by
 induction i using qk with
 |zero=>exact a
 |succ i=>induction i using qk with
  |zero=>exact b
  |succ i=>exact lt6 (P:=fun i=>P (i+1+1)) (qF (qF h)) c d e f g j
end
noncomputable def MM(sd c:Int):Int:=((sd+40123*(c+1))^(5:Int).toNat).fmod 2147483647
noncomputable def Sa(sd c:Int):Int:=((MM sd c+93089*(c+1))^(3:Int).toNat).fmod 2147483587
theorem CN(h0:y≠0)(h1:y.natAbs<1000):¬(Builtin.divisionGoesByPylong x y=true):=by
 unfold Builtin.divisionGoesByPylong;have:y.natAbs.log2<10:=(Nat.log2_lt (by lia)).mpr (by lia);simp only[Bool.and_eq_true,decide_eq_true_eq,not_and];intro h
 split at h<;>lia
def JO(sd c:Int):Prop:=IntMulOk 40123 (c+1)∧(0≤(5:Int)∧(Builtin.Int.intBits (sd+40123*(c+1)):Int)*5≤2^27)∧IntMulOk 93089 (c+1)∧(0≤(3:Int)∧(Builtin.Int.intBits (MM sd c+93089*(c+1)):Int)*3≤2^27)∧¬(Builtin.divisionGoesByPylong (Sa sd c) 16=true)∧True
theorem JP(h0:0≤c)(h1:c≤1000000)(h2:0≤sd)(h3:sd<2147483648):JO sd c:=by
 have b1:0≤MM sd c:=qN _ (by decide);have b2:MM sd c<2147483647:=Int.fmod_lt_of_pos _ (by decide);refine⟨IntMulOk.of_left (by decide+kernel),⟨by decide, ?_⟩,IntMulOk.of_left (by decide+kernel),⟨by decide, ?_⟩,CN (by decide) (by decide),trivial⟩
 ·have:=intBits_le_64 (k:=sd+40123*(c+1)) (by lia) (by lia);lia
 ·have:=intBits_le_64 (k:=MM sd c+93089*(c+1)) (by lia) (by lia);lia
section
variable{K:Frag}
theorem BV(x:Int)(h0:0<m):iw.is (.take m) (.int (x.fmod (.ofNat m))):=
 have h:(0:Int)<Int.ofNat m:=Int.ofNat_lt.mpr h0
 ⟨(x.fmod (.ofNat m)).toNat,(Int.toNat_lt (qN _ h)).mpr (Int.fmod_lt_of_pos _ h),congrArg V.int (Int.toNat_of_nonneg (qN _ h)).symm⟩
theorem Sb{α:Type _}{f g:Nat→α}(e:((List.range 10).map fun j=>f (j+1))=(List.range 10).map fun j=>g (j+1)){m:Nat}(h0:0<m)(h1:m≤10):f m=g m:=by
 have k:=List.map_inj_left.mp e (m-1) (List.mem_range.mpr (by omega))
 rwa [Nat.sub_add_cancel h0]at k
noncomputable def Sf(p:Program)(w:World)(K:Frag)(n m:Nat)(o:AO):aA (V×St):=fV (cX (HK p w K n) 60) 2 EW [] [] [.loc 0,.int (.ofNat m)] [o]
theorem PT(h:0<m∧m≤10)(b:Bg (k+1) o):Gd (jo n) aI (Sf p w K n m o) (vM (.take m) k):=by
 induction b using Bg.casesOn with
 | @mk G c sd b g c0 c1 s0 s1=>
  induction G using qh with
  |nil=>
   have key:((List.range 10).map fun j=>uw (Sf p w K n (j+1) (kE [] c sd b)))=(List.range 10).map fun j=>some (JO sd c,.num (((Sa sd c).fdiv 16).fmod (.ofNat (j+1))),some (kE [] (c+1) sd b)):=⋯;exact xU (BV ((Sa sd c).fdiv 16) h.1) (.mk g (by lia) (by lia) s0 s1) (fun _ _ _=>.num _) (JP c0 (by lia) s0 s1)
    (Sb (f:=fun m=>uw (Sf p w K n m (kE [] c sd b))) (g:=fun m=>some (JO sd c,.num (((Sa sd c).fdiv 16).fmod (.ofNat m)),some (kE [] (c+1) sd b))) key h.1 h.2)
  |cons x G=>
   let r:Nat→aA (V×St):=fun m=>Sf p w K n m (kE (x::G) c sd b)
   let f:Nat→aA (V×St):=fun m=>bE (bE (r m) (.num x)) (.num x)
   let vs:=V.num x::G.map V.num
   have lm:(G.map V.num).length=G.length:=List.length_map _;have lg:G.length+1≤24:=g;have lv:vs.length=G.length+1:=congrArg Nat.succ lm;have key:((List.range 10).map fun j=>(vw (r (j+1)),vw (bE (r (j+1)) (.num x)),(vw (f (j+1)),uw (ah (f (j+1)) false),uw (ah (f (j+1)) true))))=(List.range 10).map fun j=>
     (.pick True vs 0,.pick True vs 0,(.fork (¬(Builtin.divisionGoesByPylong x 10=true)∧True) (decide (0<x.fdiv 10)),
      some (([V.num (x.fdiv 10)].length<1000∧vs.length<1000∧([]:List V).length+(G.map V.num).length<1000∧True),.num ((x.fmod 10).fmod (.ofNat (j+1))),some (kE G (c+1) sd b)),
      some (([V.num (x.fdiv 10)].length<1000∧vs.length<1000∧[V.num (x.fdiv 10)].length+(G.map V.num).length<1000∧True),.num ((x.fmod 10).fmod (.ofNat (j+1))),some (kE (x.fdiv 10::G) (c+1) sd b)))):=⋯
   have q:=qQ (Sb (f:=fun m=>(vw (r m),vw (bE (r m) (.num x)),(vw (f m),uw (ah (f m) false),uw (ah (f m) true)))) (g:=fun m=>(.pick True vs 0,.pick True vs 0,(.fork (¬(Builtin.divisionGoesByPylong x 10=true)∧True) (decide (0<x.fdiv 10)),
      some (([V.num (x.fdiv 10)].length<1000∧vs.length<1000∧([]:List V).length+(G.map V.num).length<1000∧True),.num ((x.fmod 10).fmod (.ofNat m)),some (kE G (c+1) sd b)),
      some (([V.num (x.fdiv 10)].length<1000∧vs.length<1000∧[V.num (x.fdiv 10)].length+(G.map V.num).length<1000∧True),.num ((x.fmod 10).fmod (.ofNat m)),some (kE (x.fdiv 10::G) (c+1) sd b))))) key h.1 h.2)
   have q2:=qQ q.2;have q3:=qQ q2.2;have q4:=qQ q3.2;show Gd _ _ (r m) _;refine HG 0 rfl rfl (by lia) ?_ trivial q.1;refine HG 0 rfl rfl (by lia) ?_ trivial q2.1;refine HF (fun cc=> ?_) ⟨CN (by decide) (by decide),trivial⟩ q3.1;induction cc using qd with
   |false=>exact xU (BV _ h.1) (.mk (by exact qK ‹_›) (by lia) (by lia) s0 s1) (fun _ _ _=>.num _) ⟨(by decide:1<1000),by lia,by rw[lm];show 0+_<_;lia,trivial⟩ q4.1
   |true=>exact xU (BV _ h.1) (.mk (G:=x.fdiv 10::G) lg (by lia) (by lia) s0 s1) (fun _ _ _=>.num _) ⟨(by decide:1<1000),by lia,by rw[lm];show 1+_<_;lia,trivial⟩ q4.2
end
inductive Ls {α:Type} (f:α→V) (ok:α→Prop) (q:Nat):List V→Prop
 |mk (ls:List α) (h:∀l∈ls,ok l) (n:ls.length+q≤3):Ls f ok q (ls.map f)
theorem Ls.snoc{α:Type}{f:α→V}{ok:α→Prop}{q:Nat}{vs:List V}{a:α}(h:Ls f ok (q+1) vs)(ha:ok a):Ls f ok q (vs++[f a]):=by
 induction h using Ls.casesOn with
 |mk ls h n=>
  have e:(ls++[a]).map f=ls.map f++[f a]:=List.map_append;rw[←e];exact .mk _ (fun l hl=>(List.mem_append.mp hl).elim (h l) fun q=>List.mem_singleton.mp q▸ha) (by rw[List.length_append];show ls.length+1+q≤3;lia)
theorem Ls.lt{α:Type}{f:α→V}{ok:α→Prop}{q:Nat}{vs:List V}(h:Ls f ok q vs):vs.length<500∧True:=by
 induction h using Ls.casesOn with
 |mk ls h n=>exact⟨by rw[List.length_map];lia,trivial⟩
section
variable{K:Frag}
theorem Dw(st:St)(i:x.is v)(b:Bg k o)(fz:∀af,Fz af 1 (o::st) false u v)(hp:q)(h:vw r=.ok q (u,o::st)):Gd (jo n) aI r (vM x k):=
 oU (fun af=>⟨v,o,fz af,BU (by induction b using Bg.casesOn;exact .list (ff rfl)),i,b⟩) hp h
noncomputable def MN(p:Program)(w:World)(K:Frag)(n k:Nat)(fd:FuncData)(as:List V)(o:AO):aA (V×St):=fV (cX (HK p w K n) 60) k fd [] [] (.loc 0::as) [o]
def CO(p:Program)(w:World)(K:Frag)(n k:Nat)(fd:FuncData)(x:iw):Prop:=∀m o,Bg (m+x.cost) o→Gd (jo n) aI (MN p w K n k fd x.args o) (vM x m)
section
variable{α:Type}{Q:α→Prop}{r:aA α}
theorem eK(D k t:Nat)(hn:0<n)(ht:0<t∧t≤10)(hD:3≤D)(b:Bg (k+1) o)(hk:∀i o',i<t→Bg k o'→Gd (jo n) aI (n8 r (.int (.ofNat i)) o') Q)(h:yM r=some (True,D,1127,[.loc 0,.int (.ofNat t)],some o):=by kernel_rfl):Gd (jo n) aI r Q:=
 sS (.take t) D k hn ht hD b (qf _) ((by rintro v o' ⟨i,hi,e⟩ b;exact e▸hk i o' hi b)) h
theorem rZ(D k:Nat)(hn:1<n)(hD:5≤D)(b:Bg (k+2) o)(hk:∀(l:aH) o',l.ok→Bg k o'→Gd (jo n) aI (n8 r l.v o') Q)(h:yM r=some (True,D,1148,[.loc 0],some o):=by kernel_rfl):Gd (jo n) aI r Q:=
 sS .leaf D k hn trivial hD b (qf _) ((by rintro v o' ⟨i,hi,e⟩ b;exact e▸hk i o' hi b)) h
end
theorem PU(hn:0<n):CO p w K n 4 EX .leaf:=fun m o b=>by
 refine eK 4 (m+1) 6 hn (by decide) (by decide) b fun i o hi b=> ?_;have A:∀{r:aA (V×St)},yM r=some (True,4,1127,[.loc 0,.int (.ofNat 9)],some o)→(∀j o',uw (n8 r (.int (.ofNat j)) o')=some (True,aH.v (.int (.ofNat j)),some o'))→Gd (jo n) aI r (vM .leaf m):=
  fun h h2=>eK 4 m 9 hn (by decide) (by decide) b (fun j o hj b=>rY ⟨.int (.ofNat j),⟨Int.natCast_nonneg j,Int.ofNat_le.mpr (qO hj)⟩,rfl⟩ b (h2 j o)) h
 refine lt6 hi ?_ ?_ ?_ ?_ ?_ ?_
 iterate 4 (exact A ⋯ fun j o=>⋯)
 ·exact rY (v:=aH.v .nil) ⟨.nil,trivial,rfl⟩ (b.le (qM m))
 ·exact eK 4 m 3 hn (by decide) (by decide) b fun j o hj b=>rY (v:=aH.v (.gX (60+.ofNat j))) ⟨.gX (60+.ofNat j),⟨Int.add_nonneg (by decide) (Int.natCast_nonneg j),Int.ofNat_le.mpr (qB (qu (qK hj) 60) (by decide))⟩,rfl⟩ b
noncomputable def bM:ai:=[("bag",V.loc 0)]
theorem PV(hn:1<n):CO p w K n 7 EY .test:=fun m o b=>by
 have pD:0<n:=qG hn;refine eK 7 (m+9) 5 pD (by decide) (by decide) b fun i o hi b=> ?_;refine WE hi ?_ ?_ ?_ ?_ ?_
 iterate 2 (exact rZ 7 (m+7) hn (by decide) b fun l o ok b=>rY (v:=aB.v (.leaf l)) ⟨.leaf l,ok,rfl⟩ (b.le (qr m 7)))
 ·exact rZ 7 (m+7) hn (by decide) b fun l o ok b=>rY (v:=aB.v (.jb l)) ⟨.jb l,ok,rfl⟩ (b.le (qr m 7))
 iterate 2
  ·refine eK 7 (m+8) 4 pD (by decide) (by decide) b fun j o hj b=> ?_;refine uv (a:=0) (m:=j) (fun _=>bM) (fun s:AO×List V=>[s.1,.list [] s.2]) (fun q s=>Bg (m+2*q) s.1∧Ls aH.v aH.ok q s.2) (s0:=(o,[])) ⟨b.le (by lia),.mk [] nofun (by show 0+j≤3;lia)⟩ (fun a q s t P kR=> ?_) (fun s t=> ?_) (by lia)
   ·exact rZ 7 (m+2*q) hn (by decide) t.1 fun l o ok b=>gM kR (o,s.2++[l.v]) ⟨b,t.2.snoc ok⟩ t.2.lt ⋯
   ·obtain⟨o,vs⟩:=s;obtain⟨b,t⟩:=t;cases t with
    |mk ls h n=>exact Dw [.list [] (ls.map aH.v)] ⟨.iM ls,⟨n,h⟩,rfl⟩ b (fun af=>.tup (.cons (.closed rfl) (.cons (.tup (.cons (.closed rfl) (.cons (.lst (k:=1) (by decide) rfl (ff (gr gf ls))) .nil))) .nil))) trivial ⋯
theorem Un(hn:1<n):CO p w K n 7 EZ .pat:=fun m o b=>by
 have pD:0<n:=qG hn;refine eK 7 (m+9) 5 pD (by decide) (by decide) b fun i o hi b=> ?_;refine WE hi ?_ ?_ ?_ ?_ ?_
 ·induction b using Bg.casesOn with
  | @mk G c sd b g c0 c1 s0 s1=>
   have hl:(Str.ofString (toString c)).length≤7:=toString_length_le c0 (by decide) (by lia);have hn:("n":Str).length=1:=by decide+kernel
   have hl2:((("n":Str)++Str.ofString (toString c))).length≤8:=by rw[strLen_append];exact qu ‹_› _
   have hb:c.natAbs.log2<1920:=by
    have:=Nat.log2_lt (n:=c.natAbs) (k:=30);cases Nat.eq_zero_or_pos c.natAbs with
    |inl z=>rw[z];decide
    |inr z=>have:=(Nat.log2_lt (n:=c.natAbs) (k:=30) (by exact Nat.ne_of_gt ‹_›)).mpr (by lia);exact vV ‹_›
   exact xU (v:=cL.v (.bind (("n":Str)++Str.ofString (toString c)))) ⟨.bind _,⟨by lia,CL (lz "n") (lz _)⟩,rfl⟩ (.mk (b:=b) g c0 (by lia) s0 s1) (fun _ _ _=>.closed rfl) (p:=c.natAbs.log2<1920∧((("n":Str)++Str.ofString (toString c))).length≤sizeLine∧True) ⟨hb,by rw[sizeLine_eq];lia,trivial⟩ ⋯
 iterate 2 (exact rZ 7 (m+7) hn (by decide) b fun l o ok b=>rY (v:=cL.v (.lit l)) ⟨.lit l,ok,rfl⟩ (b.le (qr m 7)))
 iterate 2
  ·refine eK 7 (m+8) 3 pD (by decide) (by decide) b fun j o hj b=> ?_;refine uv (a:=0) (m:=1+j) (fun _=>bM) (fun s:AO×List V=>[s.1,.list [] s.2]) (fun q s=>Bg (m+2*q) s.1∧Ls (fun l=>V.tup [.str "lit",aH.v l]) aH.ok q s.2) (s0:=(o,[])) ⟨b.le (by lia),.mk [] nofun (by show 0+(1+j)≤3;lia)⟩ (fun a q s t P kR=> ?_) (fun s t=> ?_) (by lia)
   ·exact rZ 7 (m+2*q) hn (by decide) t.1 fun l o ok b=>gM kR (o,s.2++[.tup [.str "lit",l.v]]) ⟨b,t.2.snoc (f:=fun l=>V.tup [.str "lit",aH.v l]) ok⟩ t.2.lt ⋯
   ·obtain⟨o,vs⟩:=s;obtain⟨b,t⟩:=t;cases t with
    |mk ls h n=>exact Dw [.list [] (ls.map fun l=>V.tup [.str "lit",aH.v l])] ⟨.alt ls,⟨n,h⟩,rfl⟩ b (fun af=>.tup (.cons (.closed rfl) (.cons (.lst (k:=1) (by decide) rfl (ff (gr (fun l=>lO rfl (gf l)) ls))) .nil))) trivial ⋯
end
noncomputable def MO(d:Nat):ai:=[("bag",V.loc 0),("deep",V.int (.ofNat (d+1))),("found",V.loc 1)]
noncomputable def wR{d:Nat}(ws:List (List aB×Tree d)):Nat→List V:=List.rec (fun _=>[]) (fun w _ ih k=>.tup [.loc k,Tree.v d w.2]::ih (Nat.succ k)) ws
noncomputable def Dy{d:Nat}(ws:List (List aB×Tree d)):St:=List.rec [] (fun w _ ih=>.list [] (w.1.map aB.v)::ih) ws
theorem PW{st:St}{ws:List (List aB×Tree d)}:∀k,1≤k→(∀i o,(Dy ws)[i]? =some o→st[k+i]? =some o)→yK σ 1 st true (wR ws k) (ws.map u0):=by
 induction ws with
 |nil=>exact fun _ _ _=>.nil
 |cons w ws ih=>exact fun k hk h=>.cons (.tup (.cons (.lst hk (h 0 _ rfl) (ff (gr mz w.1))) (.cons (.closed (fN d w.2)) .nil))) (ih (Nat.succ k) (qP hk) fun i o e=>Nat.succ_add k i▸h (i+1) o e)
section
variable{K:Frag}
theorem HM(d:Nat):(Int.ofNat (d+1)-1:Int)=.ofNat d:=Int.add_sub_cancel (d:Int) 1
theorem jL{α:Type}{Q:α→Prop}{r:aA α}{o:AO}(D d k:Nat){x:Int}{m:Nat}(hx:x=.ofNat d)(h2:d≤2)(hn:3*d+3<n)(hD:10*d+10≤D)(b:Bg m o)(hm:k+dv d≤m)(hk:∀(t:Tree d) o',Tree.ok d t→Bg k o'→Gd (jo n) aI (n8 r (Tree.v d t) o') Q)(h:yM r=some (True,D,1134,[.loc 0,.int x],some o):=by kernel_rfl):Gd (jo n) aI r Q:=
 sS (.value d) D k hn h2 hD b hm ((by rintro v o' ⟨t,ok,e⟩ b;exact e▸hk t o' ok b)) (by subst hx;exact h)
theorem Ff{α:Type}{Q:α→Prop}{r:aA α}{o:AO}(D k:Nat)(hn:2<n)(hD:8≤D)(b:Bg (k+10) o)(hk:∀(t:aB) o',t.ok→Bg k o'→Gd (jo n) aI (n8 r t.v o') Q)(h:yM r=some (True,D,1153,[.loc 0],some o):=by kernel_rfl):Gd (jo n) aI r Q:=
 sS .test D k hn trivial hD b (qf _) ((by rintro v o' ⟨t,ok,e⟩ b;exact e▸hk t o' ok b)) h
theorem BW{α:Type}{Q:α→Prop}{r:aA α}{o:AO}(D k:Nat)(hn:2<n)(hD:8≤D)(b:Bg (k+10) o)(hk:∀(t:cL) o',t.ok→Bg k o'→Gd (jo n) aI (n8 r t.v o') Q)(h:yM r=some (True,D,1163,[.loc 0],some o):=by kernel_rfl):Gd (jo n) aI r Q:=
 sS .pat D k hn trivial hD b (qf _) ((by rintro v o' ⟨t,ok,e⟩ b;exact e▸hk t o' ok b)) h
inductive Ts (q:Nat):List V→Prop
 |mk (ts:List aB) (h:∀t∈ts,t.ok) (n:1≤ts.length+q∧ts.length+q≤2):Ts q (ts.map aB.v)
theorem Ts.snoc{vs:List V}{a:aB}(h:Ts (q+1) vs)(ha:a.ok):Ts q (vs++[a.v]):=by
 induction h using Ts.casesOn with
 |mk ls h n=>
  have e:(ls++[a]).map aB.v=ls.map aB.v++[a.v]:=List.map_append;rw[←e];exact .mk _ (fun l hl=>(List.mem_append.mp hl).elim (h l) fun q=>List.mem_singleton.mp q▸ha) (by rw[List.length_append];show 1≤ls.length+1+q∧ls.length+1+q≤2;lia)
theorem Ts.lt(h:Ts q vs):vs.length<500∧True:=by
 induction h using Ts.casesOn with
 |mk ls h n=>exact⟨by rw[List.length_map];lia,trivial⟩
theorem MP{ts:List aB}{t:Tree d}(h:gO ws)(h1:1≤ts.length∧ts.length≤2)(h2:∀t∈ts,t.ok)(h3:Tree.ok d t):gO (ws++[(ts,t)]):=
 fun w hw=>(List.mem_append.mp hw).elim (h w) fun q=>List.mem_singleton.mp q▸⟨⟨h1,h2⟩,h3⟩
noncomputable def whS(s:AO×List (List aB×Tree d)):St:=s.1::.list [] (wR s.2 2)::Dy s.2
theorem MQ(hd:d≤1)(hn:3*d+3<n):CO p w K n (10*d+12) Au (.lN d):=fun m WG b=>by
 have n9:10*d+10≤10*d+12:=qr _ 2;have h8:8≤10*d+12:=qg 8 (10*d+4);have AA:2<n:=by exact K0 ‹_›
 have pD:0<n:=by exact K0 ‹_›
 have CP:d≤2:=by exact qP ‹_›
 refine eK (10*d+12) (m+(dv d*3+69)) 3 pD (by decide) (qg 3 _) b fun i o hi b=> ?_
 let r0:=n8 (MN p w K n (10*d+12) Au (iw.args (.lN d)) WG) (.int (.ofNat i)) o
 show Gd _ _ r0 _;refine uv (a:=0) (m:=1+i) (fun _=>MO d) whS (fun q (s:AO×List (List aB×Tree d))=>Bg (m+(dv d+21)*q) s.1∧s.2.length+q≤3∧gO s.2) (s0:=(o,[])) ⟨b.le ?_,by show 0+(1+i)≤3;lia,fun _ h=>nomatch h⟩ (fun a q s t P kR=> ?_) (fun s t=> ?_) (by lia)
 ·refine qu ?_ m;exact WD hi (by lia) (by lia) (by lia)
 ·obtain⟨o,ws⟩:=s;obtain⟨b,hl,MR⟩:=t;have hl:ws.length+1+q≤3:=by rw[Nat.add_assoc,Nat.add_comm 1];exact hl
  replace b:Bg (m+(dv d+21)*q+dv d+21) o:=b.le (qH (congrArg (· +21) (Nat.add_assoc m ((dv d+21)*q) (dv d))));have sn:∀{o':AO} {ts:List aB} {t:Tree d},Bg (m+(dv d+21)*q) o'→(1≤ts.length+0∧ts.length+0≤2)→(∀t∈ts,t.ok)→Tree.ok d t→Bg (m+(dv d+21)*q) (o',ws++[(ts,t)]).1∧(o',ws++[(ts,t)]).2.length+q≤3∧gO (o',ws++[(ts,t)]).2:=
   fun b h1 h2 h3=>⟨b,by rw[List.length_append];exact hl,MP MR h1 h2 h3⟩
  generalize m+(dv d+21)*q=k at*
  let W:=ws
  let r1:=i8 r0 (.int (.ofNat a)) (MO d) (whS (o,W))
  show Gd _ _ r1 _;rcases ws with _|⟨w0,_|⟨w1,_|⟨w2,ws⟩⟩⟩
  rotate_right
  ·exact absurd hl (by simp only[List.length_cons];lia)
  all_goals
   refine eK (10*d+12) (k+dv d+20) 2 pD (by decide) (qg 3 _) b fun j o hj b=> ?_;refine uv (a:=0) (m:=1+j) (fun _=>bM) (fun(s:AO×List V)=>s.1::.list [] (wR W 2)::(Dy W++[.list [] s.2])) (fun q s=>Bg (k+dv d+10*q) s.1∧Ts q s.2) (s0:=(o,[])) ⟨b.le (by lia),.mk [] (fun _ h=>nomatch h) (by show 1≤0+(1+j)∧0+(1+j)≤2;lia)⟩ (fun a q s t P kR=> ?_) (fun s t=> ?_) (by lia)
   ·exact Ff (10*d+12) (k+dv d+10*q) AA h8 t.1 fun t1 o ok b=>gM kR (o,s.2++[t1.v]) ⟨b,t.2.snoc ok⟩ t.2.lt ⋯
   ·obtain⟨o,vs⟩:=s;obtain⟨b,t⟩:=t;cases t with
    |mk ts h1 h2=>exact jL (10*d+12) d k (HM d) CP hn n9 b (qf _) fun tr o ok b=>gM kR (o,W++[(ts,tr)]) (sn b h2 h1 ok) (p:=(wR W 2).length<500∧True) ⟨Nat.lt_of_sub_pos (Nat.succ_pos _),trivial⟩ ⋯
 ·obtain⟨o,ws⟩:=s;obtain⟨b,hl,MR⟩:=t;exact Dw (.list [] (wR ws 2)::Dy ws) ⟨ws,⟨hl,MR⟩,rfl⟩ b (fun af=>.lst (k:=1) (by decide) rfl (PW 2 (by decide) fun i o e=>(Nat.add_comm 2 i▸e))) trivial ⋯
end
theorem GK(as:List (cL×Option Int×Tree d)):bB (as.map tP)=true:=gr (fun _=>oK (lP _) (Fe _) (fN _ _)) as
section
variable{K:Frag}
theorem PX(hd:d≤1)(hn:3*d+3<n):CO p w K n (10*d+12) Av (.arms d):=fun m WG b=>by
 have n9:10*d+10≤10*d+12:=qr _ 2;have h8:8≤10*d+12:=qg 8 (10*d+4);have AA:2<n:=by exact K0 ‹_›
 have pD:0<n:=by exact K0 ‹_›
 have CP:d≤2:=by exact qP ‹_›
 refine eK (10*d+12) (m+(dv d*3+69)) 3 pD (by decide) (qg 3 _) b fun i o hi b=> ?_
 let r0:=n8 (MN p w K n (10*d+12) Av (iw.args (.arms d)) WG) (.int (.ofNat i)) o
 show Gd _ _ r0 _;refine uv (a:=0) (m:=1+i) (fun _=>MO d) (fun s:AO×List V=>[s.1,.list [] s.2]) (fun q s=>Bg (m+(dv d+21)*q) s.1∧Ls tP (fun a:cL×Option Int×Tree d=>a.1.ok∧oH a.2.1∧Tree.ok d a.2.2) q s.2) (s0:=(o,[])) ⟨b.le ?_,.mk [] (fun _ h=>nomatch h) (by show 0+(1+i)≤3;lia)⟩ (fun a q s t P kR=> ?_) (fun s t=> ?_) (by lia)
 ·refine qu ?_ m;exact WD hi (by lia) (by lia) (by lia)
 ·obtain⟨o,vs⟩:=s;obtain⟨b,t⟩:=t;replace b:Bg (m+(dv d+21)*q+dv d+21) o:=b.le (qH (congrArg (· +21) (Nat.add_assoc m ((dv d+21)*q) (dv d))));have fin:∀{r:aA cC} {o':AO} {a:cL×Option Int×Tree d},Bg (m+(dv d+21)*q) o'→a.1.ok→oH a.2.1→Tree.ok d a.2.2→uZ (lu r0) r=some (vs.length<500∧True,.next,MO d,[o',.list [] (vs++[tP a])])→Gd (jo n) aI r P:=
   fun b h1 h2 h3 h=>gM kR (_,vs++[tP _]) ⟨b,t.snoc (f:=tP) ⟨h1,h2,h3⟩⟩ t.lt h
  generalize m+(dv d+21)*q=k at*
  let r1:=i8 r0 (.int (.ofNat a)) (MO d) [o,.list [] vs]
  show Gd _ _ r1 _;refine BW (10*d+12) (k+dv d+11) AA h8 b fun pt o1 okp b=> ?_;refine eK (10*d+12) (k+dv d+10) 2 pD (by decide) (qg 3 _) b fun j o hj b=> ?_;refine WB hj ?_ ?_
  ·exact jL (10*d+12) d k (HM d) CP hn n9 b (qr _ 10) fun tr o gu b=>fin (a:=(pt,none,tr)) b okp trivial gu ⋯
  ·refine eK (10*d+12) (k+dv d+9) 6 pD (by decide) (qg 3 _) b fun g o hg b=> ?_;exact jL (10*d+12) d k (HM d) CP hn n9 b (qr _ 9) fun tr o gu b=>fin (a:=(pt,some (.ofNat g),tr)) b okp ⟨Int.natCast_nonneg g,Int.ofNat_le.mpr (qO hg)⟩ gu ⋯
 ·obtain⟨o,vs⟩:=s;obtain⟨b,t⟩:=t;cases t with
  |mk as h n=>exact Dw [.list [] (as.map tP)] ⟨as,⟨n,h⟩,rfl⟩ b (fun af=>.lst (k:=1) (by decide) rfl (ff (GK as))) trivial ⋯
end
noncomputable def lfV(c:Int)(i:Nat):V:=match i with
 |0=>.tup [.str "int",.num (c.fmod 7)]
 |1=>.tup [.str "int",.num (c.fmod 3)]
 |2=>.tup [.str "nil"]
 |_=>.tup [.str "toss",.num (70+c.fmod 3)]
noncomputable def lfL(c:Int)(i:Nat):aH:=match i with
 |0=>.int (c.fmod 7)
 |1=>.int (c.fmod 3)
 |2=>.nil
 |_=>.gX (70+c.fmod 3)
theorem Sg{c m:Int}(h:0<m):0≤c.fmod m∧c.fmod m<m:=⟨qN _ h,Int.fmod_lt_of_pos _ h⟩
theorem Fg{st:St}{x:Str}{i:Int}:Fz σ n st false (.tup [.str x,.num i]) (.tup [.str x,.int i]):=.tup (.cons (.closed rfl) (.cons (.num i) .nil))
section
variable{K:Frag}
theorem wU(hx:∀l:aH,l.ok→x.is l.v)(b:Bg k o){i:Nat}(hi:i<4){r:Nat→AO→aA (V×St)}(h:∀G c sd b,((List.range 4).map fun i=>uw (r i (kE G c sd b)))=(List.range 4).map fun i=>some (True,lfV c i,some (kE G c sd b))):Gd (jo n) aI (r i o) (vM x k):=by
 induction b using Bg.casesOn with
 | @mk G c sd b g c0 c1 s0 s1=>
  have a7:=Sg (c:=c) (m:=7) (by decide);have a3:=Sg (c:=c) (m:=3) (by decide);have ok:(lfL c i).ok:=R9 hi (by show 0≤c.fmod 7∧c.fmod 7≤8;omega) (by show 0≤c.fmod 3∧c.fmod 3≤8;omega) trivial (by show 0≤70+c.fmod 3∧70+c.fmod 3≤100;omega);exact xU (hx _ ok) (.mk g c0 c1 s0 s1) (fun af st _=>R9 (P:=fun i=>Fz af 1 st false (lfV c i) (lfL c i).v) hi Fg Fg (.closed rfl) Fg) trivial (List.map_inj_left.mp (h G c sd b) i (List.mem_range.mpr hi))
theorem JQ(hn:0<n):CO p w K n 9 rT (.value 0):=fun m o b=>by
 induction b using Bg.casesOn with
 | @mk G c sd b g c0 c1 s0 s1=>
  have b':Bg (m+1) (kE G c sd (b-1)):=.mk g c0 c1 s0 s1;exact eK 9 m 4 hn (by decide) (by decide) b' fun i o hi b=>wU (x:=.value 0) (fun l ok=>⟨l,ok,rfl⟩) b hi (r:=fun i o=>n8 (MN p w K n 9 rT (iw.args (.value 0)) _) (.int (.ofNat i)) o) fun _ _ _ _=>⋯
theorem JR(hd:d≤1)(hn:3*d+5<n):CO p w K n (10*d+19) rT (.value (d+1)):=fun m o b=>by
 have pD:0<n:=qI hn;have WH:3*d+3<n:=Nat.lt_of_le_of_lt (qr _ 2) hn;have WI:3*d+4<n:=qG hn;have CP:d≤2:=qP hd;have h19:10*d+10≤10*d+19:=qr _ 9;have h3:3≤10*d+19:=qg 3 (10*d+16);have yN:10*d+13≤10*d+19:=qr _ 6;have lf:∀l:aH,l.ok→(iw.value (d+1)).is l.v:=fun l ok=>⟨pC d (.leaf l),ok,rfl⟩;have fin:∀{r:aA (V×St)} {o:AO} {k:Nat} (t:Tr (Tree d)),Bg k o→m≤k→Tr.ok (Tree.ok d) t→uw r=some (True,Tree.v (d+1) (pC d t),some o)→Gd (jo n) aI r (vM (.value (d+1)) m):=
  fun t b hk ok h=>rY ⟨pC d t,ok,rfl⟩ (b.le hk) h
 induction b using Bg.casesOn with
 | @mk G c sd b g c0 c1 s0 s1=>
  have b':Bg (m+(dv d*5+100)) (kE G c sd (b-1)):=.mk g c0 c1 s0 s1;generalize he:dv d=e at*;have JS:∀{r:aA (V×St)} {o:AO} (t:Option (Tree d)→Tr (Tree d)),Bg (m+e+28) o→(∀o,oS (Tree.ok d) o→Tr.ok (Tree.ok d) (t o))→yM r=some (True,10*d+18,1127,[.loc 0,.int (.ofNat 2)],some o)→
    (∀o,uw (n8 r (.int (.ofNat 0)) o)=some (True,Tree.v (d+1) (pC d (t none)),some o)∧yM (n8 r (.int (.ofNat 1)) o)=some (True,10*d+18,1134,[.loc 0,.int (Int.ofNat (d+1)-1)],some o)∧
     ∀s o',uw (n8 (n8 r (.int (.ofNat 1)) o) (Tree.v d s) o')=some (True,Tree.v (d+1) (pC d (t (some s))),some o'))→Gd (jo n) aI r (vM (.value (d+1)) m):=
   fun t b ok h h2=>eK (10*d+18) (m+e+27) 2 pD (by decide) (qg 3 _) b (fun i o hi b=>WB hi (fin (t none) b (by lia) (ok none trivial) (h2 o).1)
    (jL (10*d+18) d m (HM d) CP WH (qr _ 8) b (by rw[he];exact qr _ 27) (fun s o' jF b=>fin (t (some s)) b (qf m) (ok (some s) jF) ((h2 o).2.2 s o')) (h2 o).2.1)) h
  let r:=MN p w K n (10*d+19) rT (iw.args (.value (d+1))) (kE G c sd b)
  show Gd _ _ r _;refine HF (b:=decide (0<b-1)) (fun cc=> ?_) trivial ⋯;induction cc using qd with
  |false=>
   exact eK (10*d+19) (m+(e*5+99)) 4 pD (by decide) h3 b' fun i o hi b=>wU lf (b.le (qr m _)) hi (r:=fun i o=>n8 (ah r false) (.int (.ofNat i)) o) fun _ _ _ _=>⋯
  |true=>
   let r0:=ah r true
   show Gd _ _ r0 _;refine eK (10*d+19) (m+(e*5+99)) 8 pD (by decide) h3 b' fun i o hi b=> ?_;have L:∀i,i<4→Gd (jo n) aI (n8 r0 (.int (.ofNat (i+4))) o) (vM (.value (d+1)) m):=fun i hi=>wU lf (b.le (qr m _)) hi (r:=fun i o=>n8 r0 (.int (.ofNat (i+4))) o) fun _ _ _ _=>⋯;have V1:∀{r:aA (V×St)},yM r=some (True,10*d+19,1134,[.loc 0,.int (Int.ofNat (d+1)-1)],some o)→(∀(t:Tree d) o',Tree.ok d t→Bg (m+e*4+99) o'→Gd (jo n) aI (n8 r (Tree.v d t) o') (vM (.value (d+1)) m))→Gd (jo n) aI r (vM (.value (d+1)) m):=
    fun h hk=>jL (10*d+19) d (m+e*4+99) (HM d) CP WH h19 b (by lia) hk h
   refine ML hi ?_ ?_ ?_ ?_ (L 0 (by decide)) (L 1 (by decide)) (L 2 (by decide)) (L 3 (by decide))
   ·refine eK (10*d+19) (m+(e*5+98)) 4 pD (by decide) h3 b fun j o hj b=> ?_;induction j using qk with
    |zero=>exact sS (.lN d) (10*d+19) (m+e+28) WI hd yN b (by show m+e+28+(dv d*3+70)≤_;lia) fun v o ⟨ws,ok,ev⟩ b=>by subst ev;exact JS (fun o=>.jR none ws o) b (fun o h=>⟨trivial,ok,h⟩) ⋯ fun o=>⟨⋯,⋯,fun s o'=>⋯⟩
    |succ j=>
     exact jL (10*d+19) d (m+e*4+98) (HM d) CP WH h19 b (by lia) fun s o jF b=>sS (.lN d) (10*d+19) (m+e+28) WI hd yN b (by show m+e+28+(dv d*3+70)≤_;lia) fun v o ⟨ws,ok,ev⟩ b=>by subst ev;exact JS (fun o=>.jR (some s) ws o) b (fun o h=>⟨jF,ok,h⟩) ⋯ fun o=>⟨⋯,⋯,fun s o'=>⋯⟩
   ·exact V1 ⋯ fun s o jF b=>sS (.arms d) (10*d+19) (m+e+28) WI hd yN b (by show m+e+28+(dv d*3+70)≤_;lia) fun v o ⟨as,ok,ev⟩ b=>by subst ev;exact JS (fun o=>.jB s as o) b (fun o h=>⟨jF,ok,h⟩) ⋯ fun o=>⟨⋯,⋯,fun s o'=>⋯⟩
   ·exact V1 ⋯ fun s o jF b=>BW (10*d+19) (m+e*4+89) (by exact K0 ‹_›) (qg 8 _) b fun q o HN b=>fin (.j7 s q) b (by lia) ⟨jF,HN⟩ ⋯
   ·exact V1 ⋯ fun s o jF b=>BW (10*d+19) (m+e*4+89) (by lia) (qg 8 _) b fun q o HN b=>fin (.jC s q) b (by lia) ⟨jF,HN⟩ ⋯
end
section
variable{K:Frag}{S:Spec}
theorem iI.to(b:iI (kL p w S pre asks K) I):iI (kL p w S' JT Zi K) I:=⟨b.glob,b.lim,b.fns,b.K,b.tabs,b.tK⟩
theorem au.to{σ:Nat→Addr}{st:St}{s:Shared}(h:au (kL p w S pre asks K) k A I σ st s)(hj:j≤k):au (kL p w S' JT Zi K) j A I σ st s:=⟨h.fit.le hj,h.base.to,h.rel⟩
end
theorem oM(h:∀(d:Nat) (a:Addr) (A:Around) (I:IM) (σ:Nat→Addr) (st:St) (s:Shared) (E:dU) (args:List V) (ys:LV) (Q:dU) (W:V→St→Prop),
 nH a cx.tab.asks=true→au cx d A I σ st s→aG I cx.P σ st.length args ys→cx.S d a args st W→(∀v st',W v st'→EV cx I σ st s Q (v,st'))→wpAny cx.M A (call (.ref a) ys) Q E s):Kept cx:=
 fun ha H r hp hk=>h _ _ _ _ _ _ _ _ _ _ _ _ ha H r hp hk
theorem Uo{K:Frag}{n:Nat}(x:iw)(hr:x.rank≤n)(hc:x.WA):∃(k:Nat) (fd:FuncData),k+1≤x.room∧n6 x.fn (HK p w K n).tab.fns=some (fd,[])∧CO p w K n k fd x:=by
 induction x using iw.casesOn with
 |take m=>exact⟨2,EW,qf 3,⋯,fun k o b=>PT hc b⟩
 |leaf=>exact⟨4,EX,qf 5,⋯,PU hr⟩
 |test=>exact⟨7,EY,qf 8,⋯,PV hr⟩
 |pat=>exact⟨7,EZ,qf 8,⋯,Un hr⟩
 |value d=>
  induction d using qk with
  |zero=>exact⟨9,rT,qf 10,⋯,JQ (Nat.lt_of_succ_le (qB (by decide) hr))⟩
  |succ d=>exact⟨10*d+19,rT,qf _,⋯,JR (Nat.le_of_succ_le_succ hc) hr⟩
 |lN d=>exact⟨10*d+12,Au,qf _,⋯,MQ hc hr⟩
 |arms d=>exact⟨10*d+12,Av,qf _,⋯,PX hc hr⟩
theorem Zj(p:Program)(w:World)(K:Frag)(n:Nat):Kept (HK p w K n):=by
 induction n with
 |zero=>
  refine oM fun d a A I σ st s E args ys Q W ha H r hp hk=> ?_;obtain⟨x,l,o,k,hr,_⟩:=hp;exact absurd hr (qp _)
 |succ n ih=>
  refine oM fun d a A I σ st s E args ys Q W ha H r hp hk=> ?_;obtain⟨x,l,o,k,hr,hc,rfl,rfl,hd,e,b,hw⟩:=hp;obtain⟨j,fd,hj,hf,g⟩:=Uo (p:=p) (w:=w) (K:=K) x (qO hr) hc;rw[gH]at e;refine Ul (cx:=HK p w K n) (fd:=(fd,[])) (W:=fun v o'=>x.is v∧Bg k o') (eX ih 60) hf (H.to (qB hj hd)) e b.closed (Um x) r (Good.mono (fun q hq af=> ?_) (g k o b).out) fun v o' w=>hk v _ (hw v o' w.1 w.2);obtain⟨v,o',f1,f2,i,b⟩:=hq af;exact⟨v,o',f1,f2,iw.closed i,b.closed,i,b⟩
section
variable{P:Params}{st:St}{X:Addr→Prop}
theorem Zk(r:cG P I σ st h):cG P I (fun _=>0) [] h:=⟨r.sub,fun k o e=>by trivial,fun j k hj=>by simp at hj,fun k hk=>by simp at hk⟩
theorem Up(r:cG P I σ st h)(x:aM P X I (fun _=>0) 0 h I' af [] h')(hX:∀k,k<st.length→¬X (σ k)):aM P X I σ st.length h I' σ st h':=by
 have apart:∀k,k<st.length→I' (σ k)=none:=fun k hk=>by
  induction q:I' (σ k)using qe with
  |none=>rfl
  |some ob=>
   rcases x.fresh _ _ q with z|z
   ·rw[r.out k hk]at z;exact nn z
   ·obtain⟨o1,g⟩:=r.live hk;rw[z]at g;exact nn g
 refine⟨⟨x.le.i,fun _ _=>rfl,qf _⟩,x.fresh,fun k a b=>absurd a (by exact Nat.not_le_of_lt ‹_›),⟨x.rel.sub,fun k q hq=> ?_,r.inj,apart⟩,fun b ob hb hx hk=>x.keep b ob hb hx fun k nE=>absurd nE (qp _),x.alive⟩;have hk:k<st.length:=(List.getElem?_eq_some_iff.mp hq).1;obtain⟨ob,g,gB⟩:=r.cells k q hq;exact⟨ob,x.keep _ ob g (hX k hk) fun j hj=>absurd hj (qp _),gB.mono ⟨x.le.i,fun _ _=>rfl,qf _⟩⟩
end
theorem HP(Sd:aU cx ev){A:Around}{I:IM}{σ:Nat→Addr}{st:St}{s:Shared}{E:dU}{a:Addr}{fd:FuncData×List V}{as:List V}{ys:LV}{Q:dU}{W:V→Prop}
  (hf:n6 a cx.tab.fns=some fd)(H:au cx (k+1) A I σ st s)(ca:bB as=true)(r:aG I cx.P σ st.length as ys)
  (g:Good cx.S cx.pre (fV ev k fd.1 fd.2 [] as []) fun p=>∀af,(∀k,k<p.2.length→af k≠sysModules)→∃v',Fz af 0 p.2 false p.1 v'∧aJ v'=true∧W v')
  (hW:∀v',W v'→EV cx I σ st s Q (v',st)):wpAny cx.M A (call (.ref a) ys) Q E s:=by
 have H1:au cx (k+1) A I (fun _=>0) [] s:=⟨H.fit,H.base,Zk H.rel⟩;refine tN Sd (W:=fun v' iH=>iH=[]∧aJ v'=true∧W v') hf H1 (mj r ca) (Good.mono (fun p gp af hs=> ?_) g) fun v' iH w=> ?_
 ·obtain⟨v',f1,c1,w⟩:=gp af hs;exact⟨v',[],f1,⟨rfl,qm _,fun k o o' hk=>absurd hk (qp _)⟩,rfl,c1,w⟩
 ·obtain⟨rfl,c1,w⟩:=w;intro I' af y s' x sm ry;exact hW v' w I' σ y s' (Up H.rel x (fun _ _ q=>q)) sm (kg ry c1).up
noncomputable def aj(k:Str)(qW:V):V:=.inst 687 [("kind",.str k),("parts",qW),("line",.int 0),("own",.none)]
noncomputable def aH.node:aH→V:=fun l=>match l with
 |.int i=>aj "int" (.tup [.int i])
 |.nil=>aj "nil" (.tup [])
 |.gX i=>aj "ivar" (.tup [.int i])
noncomputable def jd(o:Option Int):V:=match o with
 |none=>.none
 |some n=>aj "gvar" (.tup [.int n])
noncomputable def gQ(ls:List aH):V:=aj "array" (.tup [.lst (ls.map aH.node)])
noncomputable def aB.node:aB→V:=fun t=>match t with
 |.leaf l=>l.node
 |.jb l=>aj "splat" (.tup [l.node])
 |.iM ls=>aj "splat" (.tup [gQ ls])
noncomputable def lY(l:aH):V:=aj "p_value" (.tup [l.node])
noncomputable def cL.node:cL→V:=fun p=>match p with
 |.bind n=>aj "p_bind" (.tup [.str n])
 |.lit l=>lY l
 |.alt ls=>aj "p_alt" (.tup [.lst (ls.map lY)])
noncomputable def kF(b:V):V:=aj "seq" (.tup [.lst [b]])
noncomputable def bI{α:Type}(f:α→V)(w:List aB×α):V:=.tup [.lst (w.1.map aB.node),kF (f w.2)]
noncomputable def dB{α:Type}(f:α→V)(a:cL×Option Int×α):V:=.tup [a.1.node,jd a.2.1,f a.2.2]
noncomputable def Tr.node{α:Type}(f:α→V):Tr α→V:=fun t=>match t with
 |.leaf l=>l.node
 |.jR s ws o=>aj "case" (.tup [mX f s,.lst (ws.map (bI f)),mX f o])
 |.jB s arms o=>aj "casein" (.tup [f s,.lst (arms.map (dB f)),mX f o])
 |.j7 s p=>aj "matchp" (.tup [f s,p.node])
 |.jC s p=>aj "matchq" (.tup [f s,p.node])
noncomputable def Tree.node:(n:Nat)→Tree n→V
 |0=>aH.node
 |n+1=>Tr.node (Tree.node n)
theorem JU(k:Str)(v:V):aJ (aj k v)=true:=rfl
theorem dG(l:aH):aJ l.node=true:=by induction l using aH.casesOn<;>rfl
theorem r8(t:aB):aJ t.node=true:=by
 induction t using aB.casesOn with
 |leaf l=>exact dG l
 |_=>rfl
theorem oW(t:cL):aJ t.node=true:=by induction t using cL.casesOn<;>rfl
theorem pQ(t:Option Int):aJ (jd t)=true:=by induction t using qe<;>rfl
theorem JV{α:Type}{f:α→V}(t:Tr α):aJ (t.node f)=true:=by
 induction t using Tr.casesOn with
 |leaf l=>exact dG l
 |_=>rfl
theorem iN(n:Nat)(t:Tree n):aJ (Tree.node n t)=true:=by
 induction n using qk with
 |zero=>exact dG t
 |succ n=>exact JV t
theorem tQ(o:Option (Tree d)):aJ (mX (Tree.node d) o)=true:=oV (iN d) o
theorem GN(a:cL×Option Int×Tree d):aJ (dB (Tree.node d) a)=true:=oK (oW _) (pQ _) (iN _ _)
inductive gw where
 |none|leaf (l:aH)|guard (i:Int)|list (ls:List aH)|test (t:aB)|pat (p:cL)|tree (d:Nat) (t:Tree d)
noncomputable def gw.v:gw→V:=fun x=>match x with
 |.none=>V.none
 |.leaf l=>l.v
 |.guard i=>wM (some i)
 |.list ls=>.tup [.str "list",.lst (ls.map aH.v)]
 |.test t=>t.v
 |.pat p=>p.v
 |.tree d t=>Tree.v d t
noncomputable def gw.node:gw→V:=fun x=>match x with
 |.none=>V.none
 |.leaf l=>l.node
 |.guard i=>jd (some i)
 |.list ls=>gQ ls
 |.test t=>t.node
 |.pat p=>p.node
 |.tree d t=>Tree.node d t
noncomputable def cL.rk:cL→Nat:=fun p=>match p with
 |.alt _=>2
 |_=>1
def gw.ok:gw→Prop:=fun x=>match x with
 |.list ls=>ls.length≤3
 |.test t=>t.ok
 |.pat p=>p.ok
 |.tree d t=>Tree.ok d t
 |_=>True
noncomputable def gw.rk:gw→Nat:=fun x=>match x with
 |.list _=>1
 |.test _=>2
 |.pat p=>p.rk
 |.tree d _=>d+3
 |_=>0
theorem gw.closed(x:gw):aJ x.v=true:=by
 induction x using gw.casesOn with
 |leaf l=>exact gf l
 |test t=>exact mz t
 |pat p=>exact lP p
 |tree d t=>exact fN d t
 |_=>rfl
theorem gw.Uq(x:gw):aJ x.node=true:=by
 induction x using gw.casesOn with
 |leaf l=>exact dG l
 |test t=>exact r8 t
 |pat p=>exact oW p
 |tree d t=>exact iN d t
 |_=>rfl
noncomputable def pU(n:Nat):Spec:=fun d f as st W=>f=1175∧∃x:gw,x.rk<n∧as=[x.v]∧x.rk+5≤d∧x.ok∧W x.node st
noncomputable def Sh(p:Program)(w:World)(K:Frag)(n:Nat):Cx:=kL p w (pU n) aI [1175] K
noncomputable def MS{α:Type}(r:aA α):Option (Prop×Nat×Addr×List V):=(Dv (vw r)).map fun x=>(x.1,x.2.1,x.2.2.1,x.2.2.2.1)
noncomputable def MT{α:Type}(r:aA α)(v:V):aA α:=jQ r v (lX r)
theorem mO{α:Type}{Q:α→Prop}{n:Nat}{r:aA α}(x:gw)(D:Nat)(hr:x.rk<n)(hD:x.rk+5≤D)(ok:x.ok)(hk:Gd (pU n) aI (MT r x.node) Q)(h:MS r=some (True,D,1175,[x.v]):=by kernel_rfl):Gd (pU n) aI r Q:=by
 obtain⟨⟨p,d,f,as,st⟩,e,h⟩:=Option.map_eq_some_iff.mp h;injection h with h1 h;injection h with h2 h;injection h with h3 h;have e:=zy e;obtain⟨c,e',_⟩:=xT e;have es:lX r=st:=congrArg Ay e';exact Fd (fun v st'=>v=x.node∧st'=lX r) ⟨h3,x,hr,h,h2▸hD,ok,rfl,es.symm⟩ (fun v st' e=>e.1▸e.2▸hk) (h1▸trivial) e
def xV(x:gw)(p:V×St):Prop:=∀af,Fz af 0 p.2 false p.1 x.node
noncomputable def u5(k:Str)(qW:V):AO:=.dict [("kind",.str k),("parts",qW),("line",.int 0),("own",.none)]
theorem Fi{σ:Nat→Addr}{st:St}{m:Bool}(e:st[j]? =some (.inst 687 d))(e':st[d]? =some (u5 k pv))(h:Fz σ 0 st true pv Si):Fz σ 0 st m (.loc j) (aj k Si):=
 .inst (qm _) (qm _) e e' (.cons (.closed rfl) (.cons h (.cons (.closed rfl) (.cons (.closed rfl) .nil))))
theorem JW{σ:Nat→Addr}{st:St}(h:Fz σ n st m a a'):Fz σ n st m (.tup [a]) (.tup [a']):=.tup (.cons h .nil)
theorem Sj{σ:Nat→Addr}{st:St}(h:Fz σ n st m a a')(h2:Fz σ n st m b b'):Fz σ n st m (.tup [a,b]) (.tup [a',b']):=.tup (.cons h (.cons h2 .nil))
theorem Sk{σ:Nat→Addr}{st:St}(h:Fz σ n st m a a')(h2:Fz σ n st m b b')(h3:Fz σ n st m c c'):Fz σ n st m (.tup [a,b,c]) (.tup [a',b',c']):=.tup (.cons h (.cons h2 (.cons h3 .nil)))
section
theorem HQ{u:V}{st:St}(fz:∀af,Fz af 0 st false u x.node)(h:vw r=.ok True (u,st)):Gd (pU n) aI r (xV x):=oU (a:=(u,st)) fz trivial h
noncomputable def vwD(j d c:Nat)(r:aA (V×St)):Option (Prop×V×Option AO×Option AO×Option AO):=(zx (vw r)).map fun q=>(q.1,q.2.1,di q.2.2 j,di q.2.2 d,di q.2.2 c)
theorem AB(k:Str)(j d c:Nat)(pv Si:V)(o:AO)(fz:∀af st,st[c]? =some o→Fz af 0 st true pv Si)(e:x.node=aj k Si)(h:vwD j d c r=some (True,.loc j,some (.inst 687 d),some (u5 k pv),some o):=by kernel_rfl):Gd (pU n) aI r (xV x):=by
 obtain⟨⟨q,u,st⟩,e1,h⟩:=Option.map_eq_some_iff.mp h;injection h with h1 h;injection h with h2 h;injection h with h3 h;injection h with h4 h5;simp only[gH]at h3 h4 h5;refine oU (fun af=> ?_) (h1▸trivial) (rg e1);rw[e,show u=.loc j from h2];exact Fi h3 h4 (fz af st h5)
theorem mC(k:Str)(j d:Nat)(pv:V)(c:aJ pv=true)(e:x.node=aj k pv)(h:vwD j d d r=some (True,.loc j,some (.inst 687 d),some (u5 k pv),some (u5 k pv)):=by kernel_rfl):Gd (pU n) aI r (xV x):=AB k j d d pv pv (u5 k pv) (fun _ _ _=>.closed c) e h
end
structure Ac {α:Type} (f:α→V) (ok:α→Prop) (L:List V) (b:List α) (vs:List V):Prop where
 e:vs++b.map f=L
 l:L.length≤3
 ok:∀a∈b,ok a
section
variable{α:Type}{f:α→V}{ok:α→Prop}{a:α}{b:List α}
theorem Ac.next(h:Ac f ok L (a::b) vs):Ac f ok L b (vs++[f a]):=⟨(List.append_assoc vs [f a] _).trans h.e,h.l,fun x hx=>h.ok x (qj _ hx)⟩
theorem Ac.lt(h:Ac f ok L b vs):vs.length<500∧True:=⟨by have:=h.l;rw[←h.e,List.length_append]at this;lia,trivial⟩
theorem Ac.fin(h:Ac f ok L [] vs):vs=L:=(List.append_nil vs).symm.trans h.e
theorem Sl(hl:ls.length≤3)(h:∀a∈ls,ok a):Ac f ok (ls.map f) ls []:=⟨rfl,(List.length_map f).symm▸hl,h⟩
end
section
variable{K:Frag}
noncomputable def aa2(p:Program)(w:World)(K:Frag)(n k:Nat)(x:gw):aA (V×St):=fV (cX (Sh p w K n) 60) k E0 [] [] [x.v] []
def zz(p:Program)(w:World)(K:Frag)(n k:Nat)(x:gw):Prop:=Gd (pU n) aI (aa2 p w K n (k+4) x) (xV x)
theorem sU(l:aH):zz p w K n k (.leaf l):=by
 induction l using aH.casesOn with
 |int i=>exact mC "int" 2 1 (.tup [.int i]) rfl rfl
 |nil=>exact mC "nil" 1 0 (.tup []) rfl rfl
 |gX i=>exact mC "ivar" 2 1 (.tup [.int i]) rfl rfl
theorem MU(hn:0<n)(ls:List aH)(hl:ls.length≤3):zz p w K n (k+1) (.list ls):=by
 refine ic aH.v (fun _=>[]) (fun vs:List V=>[.list [] vs]) (fun b vs=>Ac aH.node (fun _=>True) (ls.map aH.node) b vs) (s0:=[]) (Sl hl fun _ _=>trivial) (fun l b vs t P kR _=> ?_) fun vs t=> ?_
 ·exact mO (.leaf l) (k+5) hn (qg 5 k) trivial (gM kR (vs++[l.node]) t.next t.lt ⋯)
 ·rw[t.fin];exact AB "array" 2 1 0 (.tup [.loc 0]) (.tup [.lst (ls.map aH.node)]) (.list [] (ls.map aH.node)) (fun _ _ e=>JW (.lst (qm _) e (ff (gr dG _)))) rfl
theorem MV(hn:1<n)(t:aB)(ok:t.ok):zz p w K n (k+2) (.test t):=by
 induction t using aB.casesOn with
 |leaf l=>exact sU l
 |jb l=>exact mO (.leaf l) (k+6) (qG hn) (qg 5 (k+1)) trivial (mC "splat" 1 0 (.tup [l.node]) (dh (dG l) rfl) rfl)
 |iM ls=>exact mO (.list ls) (k+6) hn (qg 6 k) ok.1 (mC "splat" 1 0 (.tup [gQ ls]) rfl rfl)
theorem PY(hn:0<n)(l:aH):zz p w K n (k+1) (.pat (.lit l)):=
 mO (.leaf l) (k+5) hn (qg 5 k) trivial (mC "p_value" 1 0 (.tup [l.node]) (dh (dG l) rfl) rfl)
theorem PZ(hn:1<n)(ls:List aH)(hl:ls.length≤3∧∀l∈ls,l.ok):zz p w K n (k+2) (.pat (.alt ls)):=by
 refine ic (fun l=>cL.v (.lit l)) (fun _=>[]) (fun vs:List V=>[.list [] vs]) (fun b vs=>Ac lY aH.ok (ls.map lY) b vs) (s0:=[]) (Sl hl.1 hl.2) (fun l b vs t P kR _=> ?_) fun vs t=> ?_
 ·exact mO (.pat (.lit l)) (k+6) hn (qg 6 k) (t.ok l qi) (gM kR (vs++[lY l]) t.next t.lt ⋯)
 ·rw[t.fin];exact AB "p_alt" 2 1 0 (.tup [.loc 0]) (.tup [.lst (ls.map lY)]) (.list [] (ls.map lY)) (fun _ _ e=>JW (.lst (qm _) e (ff (gr (fun l=>JU _ _) _)))) rfl
end
noncomputable def WJ{d:Nat}(j:Nat)(w:List aB×Tree d):St:=[.list [] (w.1.map aB.node),.list [] [Tree.node d w.2],u5 "seq" (.tup [.loc (j+1)]),.inst 687 (j+2)]
noncomputable def wV{d:Nat}(ws:List (List aB×Tree d)):Nat→List V:=List.rec (fun _=>[]) (fun w _ ih j=>.tup [.loc j,.loc (j+3)]::ih (j+4)) ws
noncomputable def nM{d:Nat}(ws:List (List aB×Tree d)):Nat→St:=List.rec (fun _=>[]) (fun w _ ih j=>WJ j w++ih (j+4)) ws
theorem P0{st:St}{ws:List (List aB×Tree d)}:∀j,(∀i o,(nM ws j)[i]? =some o→st[j+i]? =some o)→yK σ 0 st true (wV ws j) (ws.map (bI (Tree.node d))):=by
 induction ws with
 |nil=>exact fun _ _=>.nil
 |cons w ws ih=>
  intro j h;exact .cons (Sj (.lst (qm _) (h 0 _ rfl) (ff (gr r8 _))) (Fi (k:="seq") (h 3 _ rfl) (h 2 _ rfl) (JW (.lst (qm _) (h 1 _ rfl) (.cons (.closed (iN _ _)) .nil))))) (ih (j+4) fun i o e=>(Nat.add_assoc j 4 i).symm▸h (4+i) o (Nat.add_comm 4 i▸e))
section
variable{K:Frag}{α:Type}{Q:α→Prop}{r:aA α}
theorem xW(s:Tree d)(hn:d+3<n)(ok:Tree.ok d s)(hk:Gd (pU n) aI (MT r (Tree.node d s)) Q)(h:MS r=some (True,d+8,1175,[Tree.v d s]):=by kernel_rfl):Gd (pU n) aI r Q:=mO (.tree d s) (d+8) hn (qf _) ok hk h
theorem JX(o:Option (Tree d))(hn:d+3<n)(ok:oS (Tree.ok d) o)(hk:Gd (pU n) aI (MT r (mX (Tree.node d) o)) Q)(h:MS r=some (True,d+8,1175,[mX (Tree.v d) o]):=by kernel_rfl):Gd (pU n) aI r Q:=by
 induction o using qe with
 |none=>exact mO .none (d+8) (qI hn) (qg 5 _) trivial hk h
 |some t=>exact xW t hn ok hk h
theorem WK(o:Option Int)(hn:d+3<n)(hk:Gd (pU n) aI (MT r (jd o)) Q)(h:MS r=some (True,d+8,1175,[wM o]):=by kernel_rfl):Gd (pU n) aI r Q:=by
 induction o using qe with
 |none=>exact mO .none (d+8) (qI hn) (qg 5 _) trivial hk h
 |some t=>exact mO (.guard t) (d+8) (qI hn) (qg 5 _) trivial hk h
theorem JY(q:cL)(hn:d+3<n)(ok:q.ok)(hk:Gd (pU n) aI (MT r q.node) Q)(h:MS r=some (True,d+8,1175,[q.v]):=by kernel_rfl):Gd (pU n) aI r Q:=by
 have l:q.rk≤2:=by induction q using cL.casesOn<;>exact qo rfl
 exact mO (.pat q) (d+8) (Nat.lt_of_le_of_lt (qB l (qg 2 (d+1))) hn) (qB (Nat.add_le_add_right l 5) (qg 7 _)) ok hk h
theorem Ur{t:Tr (Tree d)}(hn:d+3<n)(ok:Tr.ok (Tree.ok d) t):zz p w K n (d+4) (.tree (d+1) (pC d t)):=by
 induction t using Tr.casesOn with
 |leaf l=>exact sU l
 |j7 s q=>exact xW s hn ok.1 (JY (d:=d) q hn ok.2 (mC "matchp" 1 0 (.tup [Tree.node d s,q.node]) (lO (iN d s) (oW q)) rfl))
 |jC s q=>exact xW s hn ok.1 (JY (d:=d) q hn ok.2 (mC "matchq" 1 0 (.tup [Tree.node d s,q.node]) (lO (iN d s) (oW q)) rfl))
 |jB s as o=>
  refine ic tP (fun _=>[]) (fun vs:List V=>[.list [] vs]) (fun b vs=>Ac (dB (Tree.node d)) (fun a=>a.1.ok∧oH a.2.1∧Tree.ok d a.2.2) (as.map (dB (Tree.node d))) b vs) (s0:=[]) (Sl ok.2.1.1 ok.2.1.2) (fun l b vs t P kR _=> ?_) fun vs t=> ?_
  ·obtain⟨q,g,b1⟩:=l;obtain⟨o1,_,o3⟩:=t.ok _ qi;exact JY (d:=d) q hn o1 (WK (d:=d) g hn (xW b1 hn o3 (gM kR (vs++[dB (Tree.node d) (q,g,b1)]) t.next t.lt ⋯)))
  ·rw[t.fin];exact xW s hn ok.1 (JX o hn ok.2.2 (AB "casein" 2 1 0 (.tup [Tree.node d s,.loc 0,mX (Tree.node d) o]) (.tup [Tree.node d s,.lst (as.map (dB (Tree.node d))),mX (Tree.node d) o]) (.list [] (as.map (dB (Tree.node d))))
    (fun _ _ e=>Sk (.closed (iN d s)) (.lst (qm _) e (ff (gr GN _))) (.closed (tQ o))) rfl))
 |jR s ws o=>
  obtain⟨jF,⟨hl,MR⟩,Fj⟩:=ok;refine ic u0 (fun _=>[]) (fun a:List (List aB×Tree d)=>.list [] (wV a 1)::nM a 1) (fun b a=>a++b=ws) (s0:=[]) rfl (fun x b a t P AD _=> ?_) fun a t=> ?_
  ·obtain⟨⟨h2,gu⟩,eL⟩:=MR x (t▸List.mem_append_right a qi);have la:a.length+(b.length+1)≤3:=by rw[←t,List.length_append]at hl;exact hl
   have t':(a++[x])++b=ws:=(List.append_assoc a [x] b).trans t
   let A:=a
   rcases a with _|⟨w0,_|⟨w1,_|⟨w2,a⟩⟩⟩
   rotate_right
   ·exact absurd la (by simp only[List.length_cons];lia)
   all_goals
    refine ic aB.v (fun _=>[]) (fun vs:List V=>.list [] (wV A 1)::(nM A 1++[.list [] vs])) (fun b vs=>Ac aB.node aB.ok (x.1.map aB.node) b vs) (s0:=[]) (Sl (qP h2.2) gu) (fun l b vs t P AA _=> ?_) fun vs t=> ?_
    ·exact mO (.test l) (d+8) (Nat.lt_of_le_of_lt (qg 2 (d+1)) hn) (qg 7 _) (t.ok l qi) (gM AA (vs++[l.node]) t.next t.lt ⋯)
    ·rw[t.fin];exact xW x.2 hn eL (gM AD (A++[x]) t' (p:=(wV A 1).length<500∧True) ⟨Nat.lt_of_sub_pos (Nat.succ_pos _),trivial⟩ ⋯)
  ·have t:a=ws:=(List.append_nil a).symm.trans t;subst t;refine JX s hn jF (JX o hn Fj ?_);have fz:∀(af:Nat→Addr),Fz af 0 (.list [] (wV a 1)::(nM a 1++[u5 "case" (.tup [mX (Tree.node d) s,.loc 0,mX (Tree.node d) o]),.inst 687 ((nM a 1).length+1)])) false (.loc ((nM a 1).length+2)) (gw.node (.tree (d+1) (pC d (.jR s a o)))):=fun af=>
    Fi (k:="case") (d:=(nM a 1).length+1) (by show(nM a 1++_)[(nM a 1).length+1]? =_;rw[qx (qr _ 1),Nat.add_sub_cancel_left];rfl) (by show(nM a 1++_)[(nM a 1).length]? =_;rw[qx (qf _),Nat.sub_self];rfl)
     (Sk (.closed (tQ s)) (.lst (qm _) rfl (P0 1 fun i o e=>by rw[Nat.add_comm 1 i];exact(qz (List.getElem?_eq_some_iff.mp e).1).trans e)) (.closed (tQ o)))
   rcases a with _|⟨w0,_|⟨w1,_|⟨w2,_|⟨w3,a⟩⟩⟩⟩
   rotate_right
   ·exact absurd hl (by simp only[List.length_cons];simp)
   all_goals exact HQ fz ⋯
end
theorem P1{K:Frag}{n:Nat}(x:gw)(hr:x.rk≤n)(ok:x.ok):zz p w K n x.rk x:=by
 induction x using gw.casesOn with
 |none=>exact HQ (u:=.none) (st:=[]) (fun _=>.closed rfl) ⋯
 |leaf l=>exact sU l
 |guard i=>exact mC "gvar" 2 1 (.tup [.int i]) rfl rfl
 |list ls=>exact MU hr ls ok
 |test t=>exact MV hr t ok
 |pat q=>
  induction q using cL.casesOn with
  |bind x=>exact mC "p_bind" 1 0 (.tup [.str x]) rfl rfl
  |lit l=>exact PY hr l
  |alt ls=>exact PZ hr ls ok
 |tree d t=>
  induction d using qk with
  |zero=>exact sU t
  |succ d=>exact Ur (t:=t) hr ok
theorem Zl(p:Program)(w:World)(K:Frag)(n:Nat):Kept (Sh p w K n):=by
 induction n with
 |zero=>
  refine oM fun d a A I σ st s E args ys Q W ha H r hp hk=> ?_;obtain⟨_,x,hr,_⟩:=hp;exact absurd hr (qp _)
 |succ n ih=>
  refine oM fun d a A I σ st s E args ys Q W ha H r hp hk=> ?_;obtain⟨rfl,x,hr,rfl,hd,ok,hw⟩:=hp;exact HP (cx:=Sh p w K n) (fd:=(E0,[])) (W:=fun v'=>v'=x.node) (eX ih 60) ⋯ (H.to hd) (dh x.closed rfl) r (Good.mono (fun q hq af _=>⟨x.node,hq af,x.Uq,rfl⟩) (P1 x (qO hr) ok).out) fun v' hv=>hv▸hk _ _ hw
theorem P4(Sd:aU cx ev){I:IM}{σ:Nat→Addr}{st:St}{s:Shared}{E:dU}{a:Addr}{fd:FuncData×List V}{as:List V}{ys:LV}{Q:dU}{o:AO}{W:V→AO→Prop}
  (hf:n6 a cx.tab.fns=some fd)(H:au cx (k+1) A I σ st s)(e:st[l]? =some o)(c:ki o=true)(ca:bB as=true)(r:aG I cx.P σ st.length (as++[.loc l]) ys)
  (g:Good cx.S cx.pre (fV ev k fd.1 fd.2 [] (as++[.loc 0]) [o]) fun p=>∀af,∃v' o',Fz af 1 p.2 false p.1 v'∧CK af 1 p.2 [o']∧aJ v'=true∧ki o'=true∧W v' o')
  (hW:∀v' o',W v' o'→EV cx I σ st s Q (v',cF st l o')):wpAny cx.M A (call (.ref a) ys) Q E s:=by
 have H1:au cx (k+1) A I (fun _=>σ l) [o] s:=⟨H.fit,H.base,JM H.rel e c⟩;obtain⟨xs,y,rfl,r1,r2⟩:=r.snoc
 ·obtain⟨rfl,hl⟩:=tX r2;have r3:aG I cx.P (fun _=>σ l) [o].length (as++[.loc 0]) (xs++[.ref (σ l)]):=(mj r1 ca).up.append (.cons (aq.loc (σ:=fun _=>σ l) 0 (by show 0<1;decide)) .nil);refine tN Sd (W:=fun v' iH=>∃o',iH=[o']∧aJ v'=true∧ki o'=true∧W v' o') hf H1 r3 (Good.mono (fun p gp af hs=> ?_) g) fun v' iH w=> ?_
  ·obtain⟨v',o',f1,f2,c1,c2,w⟩:=gp af;exact⟨v',[o'],f1,f2,o',rfl,c1,c2,w⟩
  ·obtain⟨o',rfl,c1,c2,w⟩:=w;intro I' af y s' x sm ry;exact hW v' o' w I' σ y s' (HD H.rel e x c2 (fun _ _ q=>q)) sm (kg ry c1).up
theorem bN(x:Val):aJ x.v=true:=by induction x using Val.casesOn<;>kernel_rfl
theorem MW(x:Rz):aJ x.v=true:=by induction x using Rz.casesOn<;>kernel_rfl
theorem lQ(x:bu):aJ x.v=true:=by
 induction x using bu.casesOn with
 |val x=>exact lO (jc _) (bN x)
 |raise z=>exact lO (jc _) (MW z)
theorem GO(x:Mark):aJ x.v=true:=by
 induction x using Mark.casesOn with
 |made i=>kernel_rfl
 |asked a b=>exact oK (jc _) (bN a) (bN b)
 |guard i=>kernel_rfl
 |bound n b=>exact oK (jc _) (jc _) (bN b)
theorem fO:bB a=true→bB b=true→bB (a++b)=true:=by
 induction a with
 |nil=>exact fun _ h=>h
 |cons v a ih=>exact fun h h2=>dh (bk h).1 (ih (bk h).2 h2)
theorem tR:bB (a++b)=true→bB a=true:=by
 induction a with
 |nil=>exact fun _=>rfl
 |cons v a ih=>exact fun h=>dh (bk h).1 (ih (bk h).2)
noncomputable def dK.v:dK→V:=fun x=>match x with
 |.vals xs=>.tup [.str "value",.lst (xs.map Val.v)]
 |.raise z=>.tup [.str "raise",z.v]
noncomputable def fc.v:fc→V:=fun x=>match x with
 |.val b=>.tup [.str "value",.bool b]
 |.raise z=>.tup [.str "raise",z.v]
inductive cS where
 |leaf (l:aH)|asked (a b:Val)|fW (t:aB)|fits (p:cL) (x:Val)|tree (d:Nat) (t:Tree d)|guard (i:Int)
noncomputable def cS.fn:cS→Addr:=fun x=>match x with
 |.leaf _=>1210
 |.asked _ _=>1189
 |.fW _=>1224
 |.fits _ _=>1238
 |.tree _ _=>1210
 |.guard _=>1203
noncomputable def cS.args:cS→List V:=fun x=>match x with
 |.leaf l=>[l.v]
 |.asked a b=>[a.v,b.v]
 |.fW t=>[t.v]
 |.fits p x=>[p.v,x.v]
 |.tree d t=>[Tree.v d t]
 |.guard i=>[.int i]
noncomputable def cS.marks:cS→List Mark:=fun x=>match x with
 |.leaf l=>l.rd.1
 |.asked a b=>[.asked a b]
 |.fW t=>t.rd.1
 |.fits p x=>(p.fits x).1
 |.tree d t=>(Tree.rd d t).1
 |.guard i=>[.guard i]
noncomputable def cS.val:cS→V:=fun x=>match x with
 |.leaf l=>l.rd.2.v
 |.asked a b=>(cN a b).v
 |.fW t=>t.rd.2.v
 |.fits p x=>(p.fits x).2.v
 |.tree d t=>(Tree.rd d t).2.v
 |.guard i=>(dM i).v
def cS.ok:cS→Prop:=fun x=>match x with
 |.leaf l=>l.ok
 |.asked a b=>a.ok∧b.ok
 |.fW t=>t.ok
 |.fits p x=>p.ok∧x.ok
 |.tree d t=>Tree.ok d t
 |.guard i=>0≤i∧i≤5
noncomputable def cS.rk:cS→Nat:=fun x=>match x with
 |.fW _=>1
 |.fits p _=>p.rk
 |.tree d _=>3+d
 |_=>0
noncomputable def cS.dp:cS→Nat:=fun x=>match x with
 |.fW _=>11
 |.fits p _=>8+3*p.rk
 |.tree d _=>3*d+17
 |_=>8
noncomputable def cS.all(x:cS)(mk:List V):List V:=mk++x.marks.map Mark.v
def ZL(l:List V):Prop:=bB l=true∧l.length≤400
theorem ZL.pre(h:ZL (a++b)):ZL a:=⟨tR h.1,qB (qB (qr _ _) (qH List.length_append.symm)) h.2⟩
noncomputable def mB:Nat→Nat
 |0=>1
 |d+1=>40+2*mB d
noncomputable def dS(n:Nat):Spec:=fun d f as st W=>(∃(x:cS) (l:Nat) (mk:List V),x.rk<n∧f=x.fn∧as=x.args++[.loc l]∧x.dp≤d∧x.ok∧listAt st l=some ([],mk)∧ZL (x.all mk)∧
 W x.val (cF st l (.list [] (x.all mk))))∨(0<n∧∃x:Val,x.ok∧f=345∧as=[x.v]∧8≤d∧W (.str (eB x)) st)
noncomputable def Zm:List Addr:=[1210,1189,1224,1238,345,1203]
noncomputable def az(p:Program)(w:World)(K:Frag)(n:Nat):Cx:=kL p w (dS n) aI Zm K
theorem gx(l:List Mark):bB (l.map Mark.v)=true:=gr GO l
structure Tt (Z:List V) (w:V) (ms:List Mark) (v:V) (M:List V):Prop where
 e:M++ms.map Mark.v=Z
 v:v=w
structure ux (Z:List V) (w:V):Prop where
 l:ZL Z
 c:aJ w=true
theorem Tt.aft{m ms:List Mark}{v:V}{M:List V}(t:Tt Z w (m++ms) v M):Tt Z w ms v (M++m.map Mark.v):=⟨by rw[List.append_assoc,←List.map_append];exact t.e,t.v⟩
theorem Tt.zl{ms:List Mark}{v:V}{M:List V}(t:Tt Z w ms v M)(z:ux Z w):ZL M:=ZL.pre (t.e▸z.l)
def wW(Z:List V)(w:V)(p:V×St):Prop:=∀af,Fz af 1 p.2 false p.1 w∧CK af 1 p.2 [.list [] Z]
noncomputable def yO(r:aA (V×St)):Option (Prop×V×Option AO):=(zx (vw r)).map fun x=>(x.1,x.2.1,di x.2.2 0)
noncomputable def Sm{α:Type}(r:aA α):Option (Prop×Nat×Addr×List V×Option (LV×List V)):=(Dv (vw r)).map fun x=>(x.1,x.2.1,x.2.2.1,x.2.2.2.1,listAt x.2.2.2.2 0)
noncomputable def mD{α:Type}(r:aA α)(v:V)(M:List V):aA α:=jQ r v (cF (lX r) 0 (.list [] M))
noncomputable def cS.out(x:cS):List Mark×V:=(x.marks,x.val)
section
variable{α:Type}{Q:α→Prop}{Z:List V}{ms:List Mark}
theorem bS(x:cS)(D:Nat)(hr:x.rk<n)(hD:x.dp≤D)(ok:x.ok)(z:ux Z w){u:V}(o:x.out=(m,v))(t:Tt Z w (m++ms) u M)(hk:Tt Z w ms u (M++m.map Mark.v)→Gd (dS n) aI (mD r v (M++m.map Mark.v)) Q)
  (h:Sm r=some (True,D,x.fn,x.args++[.loc 0],some ([],M)):=by kernel_rfl):Gd (dS n) aI r Q:=by
 obtain⟨⟨p,d,f,as,st⟩,e,h⟩:=Option.map_eq_some_iff.mp h;injection h with h1 h;injection h with h2 h;injection h with h3 h;injection h with h4 h;have e:=zy e;injection o with o1 o2;subst o1 o2;obtain⟨k,e',_⟩:=xT e;have es:lX r=st:=congrArg Ay e';exact Fd (fun v st'=>v=x.val∧st'=cF st 0 (.list [] (x.all M))) (.inl ⟨x,0,M,hr,h3,h4,h2▸hD,ok,h,t.aft.zl z,rfl,rfl⟩) (fun _ _ e=>e.1▸e.2▸es▸hk t.aft) (h1▸trivial) e
theorem JZ(t:Tt Z w [] v M)(z:ux Z w)(fz:∀af st,vw r=.ok p (u,st)→Fz af 1 st false u w)(hp:p)(h:yO r=some (p,u,some (.list [] M))):Gd (dS n) aI r (wW Z w):=by
 obtain⟨⟨q,u',st⟩,e,k⟩:=Option.map_eq_some_iff.mp h;clear h;injection k with k1 k;injection k with k2 k;have e:=rg e;subst k1 k2;refine oU (fun af=>⟨fz af st e, ?_⟩) hp e;induction st using qh with
 |nil=>exact nn k
 |cons o st=>
  injection k with k;rw[show o=_ from k,←t.e,List.map_nil,List.append_nil];exact BU (.list (ff (tR (t.e▸z.l.1))))
theorem dH(t:Tt Z w [] v M)(z:ux Z w)(h:yO r=some (True,v,some (.list [] M)):=by kernel_rfl):Gd (dS n) aI r (wW Z w):=JZ t z (fun _ _ _=>t.v▸.closed (t.v▸z.c)) trivial h
theorem ri(t:Tt Z w [] v M)(z:ux Z w)(hp:p)(h:yO r=some (p,v,some (.list [] M))):Gd (dS n) aI r (wW Z w):=JZ t z (fun _ _ _=>t.v▸.closed (t.v▸z.c)) hp h
end
noncomputable def jG:List Val:=.none::.bool true::.bool false::(List.range 9).map fun j:Nat=>Val.int (Int.ofNat j)
theorem Us(h:x.ok):x∈jG:=by
 induction x using Val.casesOn with
 |none=>exact .head _
 |bool b=>induction b using qd with
  |true=>exact .tail _ (.head _)
  |false=>exact .tail _ (.tail _ (.head _))
 |int i=>exact .tail _ (.tail _ (.tail _ (List.mem_map.mpr ⟨i.toNat,List.mem_range.mpr (by have h1:0≤i∧i≤8:=h;lia),congrArg Val.int (Int.toNat_of_nonneg h.1)⟩)))
theorem mY{α:Type _}{f g:Val→α}(e:jG.map f=jG.map g){x:Val}(h:x.ok):f x=g x:=List.map_inj_left.mp e x (Us h)
theorem all_ints{α:Type _}{f g:Int→α}{m:Nat}(e:((List.range m).map fun j:Nat=>f (Int.ofNat j))=(List.range m).map fun j:Nat=>g (Int.ofNat j)){i:Int}(h:0≤i∧i<m):f i=g i:=by
 have k:=List.map_inj_left.mp e i.toNat (List.mem_range.mpr (by lia));have q:Int.ofNat i.toNat=i:=Int.toNat_of_nonneg h.1;rw[q]at k;exact k
section
variable(p:Program) (w:World) (K:Frag) (n:Nat)
noncomputable def nN(k:Nat)(fd:FuncData)(as mk:List V):aA (V×St):=fV (cX (az p w K n) 60) k fd [] [] (as++[.loc 0]) [.list [] mk]
def AE(k:Nat)(fd:FuncData)(x:cS):Prop:=∀mk,ux (x.all mk) x.val→Gd (dS n) aI (nN p w K n k fd x.args mk) (wW (x.all mk) x.val)
end
section
variable{K:Frag}
theorem Dz{x:cS}{v:V}(z:ux (x.all mk) v):mk.length<500∧True:=⟨by have:=z.l.pre.2;lia,trivial⟩
theorem BX(l:aH):AE p w K n (k+7) iK (.leaf l):=fun mk z=>by
 induction l using aH.casesOn with
 |int i=>exact ri (M:=cS.all (.leaf (.int i)) mk) ⟨List.append_nil _,rfl⟩ z (Dz z) ⋯
 |nil=>exact dH (M:=mk) ⟨rfl,rfl⟩ z
 |gX i=>exact dH (M:=mk) ⟨rfl,rfl⟩ z
set_option maxHeartbeats 4000000 in
theorem P5{k:Nat}(a b:Val)(ha:a.ok)(hb:b.ok):AE p w K n (k+7) Aw (.asked a b):=fun mk z=>by
 have key:jG.map (fun a=>jG.map fun b=>yO (nN p w K n (k+7) Aw [a.v,b.v] mk))=jG.map fun a=>jG.map fun b=>some ((mk.length<500∧True),(cN a b).v,some (AO.list [] (mk++[Mark.v (.asked a b)]))):=⋯;exact ri (M:=cS.all (.asked a b) mk) ⟨List.append_nil _,rfl⟩ z (Dz z) (mY (mY key ha) hb)
theorem P6{k:Nat}(i:Int)(hi:0≤i∧i≤5):AE p w K n (k+7) wH (.guard i):=fun mk z=>by
 have key:((List.range 6).map fun j:Nat=>yO (nN p w K n (k+7) wH [.int (Int.ofNat j)] mk))=(List.range 6).map fun j:Nat=>some ((mk.length<500∧True),(dM (Int.ofNat j)).v,some (AO.list [] (mk++[Mark.v (.guard (Int.ofNat j))]))):=⋯;exact ri (M:=cS.all (.guard i) mk) ⟨List.append_nil _,rfl⟩ z (Dz z) (all_ints (f:=fun i=>yO (nN p w K n (k+7) wH [.int i] mk)) (g:=fun i=>some ((mk.length<500∧True),(dM i).v,some (AO.list [] (mk++[Mark.v (.guard i)])))) key ⟨hi.1,by omega⟩)
end
noncomputable def sV(ws:List V)(b:List aH):List Mark×V:=match bZ b with
 |(m,.vals ys)=>(m,.tup [.str "value",.lst (ws++ys.map Val.v)])
 |(m,.raise z)=>(m,.tup [.str "raise",z.v])
theorem CQ(h:l.rd=(m,.val x)):sV ws (l::b)=(m++(sV (ws++[x.v]) b).1,(sV (ws++[x.v]) b).2):=by
 unfold sV;rw[bZ,h];induction bZ b using qn with
 |mk m' w'=>induction w' using dK.casesOn with
  |raise=>rfl
  |vals ys=>exact congrArg (fun z=>(m++m',V.tup [.str "value",.lst z])) (List.append_assoc ws [x.v] _).symm
theorem MX(ws:List V):sV ws []=([],.tup [.str "value",.lst ws]):=congrArg (fun z=>(([]:List Mark),V.tup [.str "value",.lst z])) (List.append_nil ws)
noncomputable def vwL(j:Nat)(r:aA (V×St)):Option (Prop×V×Option AO×Option AO):=(zx (vw r)).map fun x=>(x.1,x.2.1,di x.2.2 0,di x.2.2 j)
section
variable{K:Frag}
theorem uy(j:Nat)(hj:1≤j)(t:Tt Z z [] (.tup [.str "value",.lst ws]) M)(o:ux Z z)(c:bB ws=true)(hp:q)
  (h:vwL j r=some (q,.tup [.str "value",.loc j],some (.list [] M),some (.list [] ws))):Gd (dS n) aI r (wW Z z):=by
 obtain⟨⟨q',u',st⟩,e,h⟩:=Option.map_eq_some_iff.mp h;injection h with h1 h;injection h with h2 h;injection h with h3 h;refine JZ (u:=.tup [.str "value",.loc j]) t o (fun af st' e'=> ?_) hp (by unfold yO;rw[e,←h1,←h2,←h3];rfl);rw[rg e]at e';injection e' with _ e';injection e' with _ e';rw[←t.v,←e'];exact Sj (.closed (jc _)) (.lst hj ((gH _ _).symm.trans h) (ff c))
noncomputable def tsM(ls:List aH):ai:=[("trees",.lst (ls.map aH.v)),("marks",.loc 0),("found",.loc 1)]
theorem MY(hn:0<n)(t:aB)(ok:t.ok):AE p w K n (k+10) E1 (.fW t):=fun mk z=>by
 induction t using aB.casesOn with
 |leaf l=>
  induction l using aH.casesOn with
  |int i=>exact bS (.leaf (.int i)) (k+9) hn (qg 8 (k+1)) ok z rfl (ms:=[]) ⟨rfl,rfl⟩ fun t=>uy 2 (by decide) (ws:=[.int i]) t z rfl (q:=([]:List V).length<500∧True) ⟨by decide,trivial⟩ ⋯
  |nil=>exact bS (.leaf .nil) (k+9) hn (qg 8 (k+1)) ok z rfl (ms:=[]) ⟨rfl,rfl⟩ fun t=>uy 2 (by decide) (ws:=[.none]) t z rfl (q:=([]:List V).length<500∧True) ⟨by decide,trivial⟩ ⋯
  |gX i=>exact bS (.leaf (.gX i)) (k+9) hn (qg 8 (k+1)) ok z rfl (ms:=[]) ⟨rfl,rfl⟩ fun t=>dH t z
 |jb l=>
  induction l using aH.casesOn with
  |int i=>exact bS (.leaf (.int i)) (k+10) hn (qg 8 (k+2)) ok z rfl (ms:=[]) ⟨rfl,rfl⟩ fun t=>uy 1 (by decide) (ws:=[.int i]) t z rfl trivial ⋯
  |nil=>exact bS (.leaf .nil) (k+10) hn (qg 8 (k+2)) ok z rfl (ms:=[]) ⟨rfl,rfl⟩ fun t=>uy 1 (by decide) (ws:=[]) t z rfl trivial ⋯
  |gX i=>exact bS (.leaf (.gX i)) (k+10) hn (qg 8 (k+2)) ok z rfl (ms:=[]) ⟨rfl,rfl⟩ fun t=>dH t z
 |iM ls=>
  refine ic aH.v (fun _=>tsM ls) (fun s:List V×List V=>[.list [] s.1,.list [] s.2]) (fun b s=>Tt (cS.all (.fW (.iM ls)) mk) (cS.val (.fW (.iM ls))) (sV s.2 b).1 (sV s.2 b).2 s.1∧bB s.2=true∧s.2.length+b.length≤3∧∀l∈b,l.ok)
   (s0:=(mk,[])) ⟨?_,rfl,by show 0+_≤_;rw[Nat.zero_add];exact ok.1,ok.2⟩ (fun l b s t P kR hr=> ?_) fun s t=> ?_
  ·unfold sV;induction e:bZ ls using qn with
   |mk m w'=>
    have q:cS.all (.fW (.iM ls)) mk=mk++m.map Mark.v:=by show mk++(bZ ls).1.map Mark.v=_;rw[e]
    have q':cS.val (.fW (.iM ls))=w'.v:=by show(bZ ls).2.v=_;rw[e]
    rw[q,q'];induction w' using dK.casesOn<;>exact⟨rfl,rfl⟩
  ·obtain⟨t,c,hl,eL⟩:=t;have lC:=eL l qi;have sW:∀a∈b,a.ok:=fun a h=>eL a (qj _ h);have hl:(s.2.length+b.length)+1≤3:=hl;have hq:s.2.length<500∧True:=⟨by lia,trivial⟩;induction l using aH.casesOn with
   |int i=>
    rw[CQ (x:=.int i) rfl]at t;exact bS (.leaf (.int i)) (k+9) hn (qg 8 (k+1)) lC z rfl t fun t=>gM kR (_,s.2++[.int i]) ⟨t,fO c rfl,by rw[List.length_append];show _+1+_≤_;lia,sW⟩ hq ⋯
   |nil=>
    rw[CQ (x:=.none) rfl]at t;exact bS (.leaf .nil) (k+9) hn (qg 8 (k+1)) lC z rfl t fun t=>gM kR (_,s.2++[.none]) ⟨t,fO c rfl,by rw[List.length_append];show _+1+_≤_;lia,sW⟩ hq ⋯
   |gX i=>
    exact bS (.leaf (.gX i)) (k+9) hn (qg 8 (k+1)) lC z rfl (ms:=[]) t fun t=>iu hr (.tup [.str "raise",.int i]) [.list [] (cS.all (.leaf (.gX i)) s.1),.list [] s.2] fun m=>dH t z
  ·obtain⟨t,c,_⟩:=t;rw[MX]at t;exact uy 1 (by decide) t z c trivial ⋯
end
theorem J0(n:Int):wN n=.bool true∨wN n=.int 0∨wN n=.none∨wN n=.bool false:=by
 unfold wN
 split
 ·exact .inl rfl
 ·split
  ·exact .inr (.inl rfl)
  ·split
   ·exact .inr (.inr (.inl rfl))
   ·exact .inr (.inr (.inr rfl))
theorem BY(n:Int):(wN n).ok:=by
 rcases J0 n with h|h|h|h<;>rw[h]
 ·exact trivial
 ·exact⟨by decide,by decide⟩
 ·exact trivial
 ·exact trivial
def CR(x:bu):Prop:=match x with
 |.val x=>x.ok
 |.raise _=>True
theorem MZ:CR (cN a b):=by
 unfold cN
 split
 ·trivial
 ·exact BY _
noncomputable def Sn(x:bu):fc:=match x with
 |.raise z=>.raise z
 |.val y=>.val y.holds
theorem Fl{l:aH}(h:l.rd=(m,.val x)):l.fits v=(m++[.asked x v],Sn (cN x v)):=by
 unfold aH.fits;rw[h];dsimp only;induction cN x v using bu.casesOn<;>rfl
theorem AF{l:aH}(h:l.rd=(m,.raise z)):l.fits v=(m,.raise z):=by
 unfold aH.fits;rw[h]
theorem M0(e:l.rd=(m,x)):(cS.leaf l).out=(m,x.v):=congrArg (fun q:Rd=>(q.1,q.2.v)) e
theorem nP(e:q.fits v=(m,x)):(cS.fits q v).out=(m,x.v):=congrArg (fun q:List Mark×fc=>(q.1,q.2.v)) e
theorem pF(e:Tree.rd d t=(m,x)):(cS.tree d t).out=(m,x.v):=congrArg (fun q:Rd=>(q.1,q.2.v)) e
section
variable{K:Frag}
theorem Fo{k:Nat}(x:Str)(v:Val):AE p w K n (k+10) pB (.fits (.bind x) v):=fun mk z=>ri (M:=cS.all (.fits (.bind x) v) mk) ⟨List.append_nil _,rfl⟩ z (Dz z) ⋯
theorem GP{k:Nat}(hn:0<n)(l:aH)(v:Val)(ok:l.ok)(uz:v.ok):AE p w K n (k+10) pB (.fits (.lit l) v):=fun mk z=>by
 have t:Tt (cS.all (.fits (.lit l) v) mk) (cS.val (.fits (.lit l) v)) (l.fits v).1 (l.fits v).2.v mk:=⟨rfl,rfl⟩;induction e:l.rd using qn with
 |mk m x=>
  induction x using bu.casesOn with
  |raise y=>
   rw[AF e]at t;exact bS (.leaf l) (k+10) hn (qg 8 (k+2)) ok z (M0 e) (ms:=[]) ((List.append_nil m).symm▸t) fun t=>dH t z
  |val x=>
   rw[Fl e]at t;have fC:CR l.rd.2:=by induction l using aH.casesOn<;>first|exact ok|trivial
   rw[e]at fC;refine bS (.leaf l) (k+10) hn (qg 8 (k+2)) ok z (M0 e) t fun t=> ?_;refine bS (.asked x v) (k+10) hn (qg 8 (k+2)) ⟨fC,uz⟩ z (m:=[.asked x v]) (v:=(cN x v).v) rfl (ms:=[]) t fun t=> ?_;have o:=MZ (a:=x) (b:=v);generalize cN x v=y at t o;induction y using bu.casesOn with
   |raise y=>exact dH t z
   |val y=>exact dH t z (mY (f:=fun y=>yO (mD (mD (nN p w K n (k+10) pB (cS.args (.fits (.lit l) v)) mk) (bu.val x).v (mk++m.map Mark.v)) (bu.val y).v ((mk++m.map Mark.v)++[Mark.asked x v].map Mark.v))) (g:=fun y=>some (True,(fc.val y.holds).v,some (AO.list [] ((mk++m.map Mark.v)++[Mark.asked x v].map Mark.v)))) ⋯ o)
noncomputable def alM(ls:List aH)(v:Val):ai:=[("shape1",cL.v (.alt ls)),("value",v.v),("marks",.loc 0)]
theorem GQ(hn:1<n)(ls:List aH)(v:Val)(ok:∀l∈ls,l.ok)(uz:v.ok):AE p w K n (k+13) pB (.fits (.alt ls) v):=fun mk z=>by
 refine ic (fun l=>cL.v (.lit l)) (fun _=>alM ls v) (fun M:List V=>[.list [] M]) (fun b M=>Tt (cS.all (.fits (.alt ls) v) mk) (cS.val (.fits (.alt ls) v)) (cV v b).1 (cV v b).2.v M∧∀l∈b,l.ok)
  (s0:=mk) ⟨⟨rfl,rfl⟩,ok⟩ (fun l b M t P kR hr=> ?_) fun M t=>dH t.1 z
 obtain⟨t,eL⟩:=t;rw[cV.eq_2]at t;have lC:=eL l qi;have sW:∀a∈b,a.ok:=fun a h=>eL a (qj _ h);induction e:l.fits v using qn with
 |mk m f=>
  rw[e]at t;induction f using fc.casesOn with
  |raise y=>
   replace t:Tt _ _ m (fc.raise y).v M:=t;exact bS (.fits (.lit l) v) (k+13) hn (qg 11 (k+2)) ⟨lC,uz⟩ z (nP e) (ms:=[]) ((List.append_nil m).symm▸t) fun t=>iu hr (fc.raise y).v [.list [] (M++m.map Mark.v)] fun m=>dH t z
  |val y=>induction y using qd with
   |true=>
    replace t:Tt _ _ m (fc.val true).v M:=t;exact bS (.fits (.lit l) v) (k+13) hn (qg 11 (k+2)) ⟨lC,uz⟩ z (nP e) (ms:=[]) ((List.append_nil m).symm▸t) fun t=>iu hr (fc.val true).v [.list [] (M++m.map Mark.v)] fun m=>dH t z
   |false=>
    replace t:Tt _ _ (m++(cV v b).1) (cV v b).2.v M:=t;exact bS (.fits (.lit l) v) (k+13) hn (qg 11 (k+2)) ⟨lC,uz⟩ z (nP e) t fun t=>jE kR _ ⟨t,sW⟩
end
section
variable{α:Type} (rd:α→Rd) (ay:Option Val) (o:Option α) (body:α)
noncomputable def fQ(rest:List (List aB×α))(ts:List aB):Rd:=match jl ay ts with
 |(mk,.raise z)=>(mk,.raise z)
 |(mk,.hit)=>after mk (rd body)
 |(mk,.miss)=>after mk (eZ rd ay o rest)
noncomputable def c8(rest:List (List aB×α))(ts:List aB)(vs:List Val):Rd:=match j8 ay vs with
 |(mk,.raise z)=>(mk,.raise z)
 |(mk,.hit)=>after mk (rd body)
 |(mk,.miss)=>after mk (fQ rd ay o body rest ts)
theorem sX(rest:List (List aB×α))(ts:List aB):c8 rd ay o body rest ts []=fQ rd ay o body rest ts:=rfl
theorem qX(rest:List (List aB×α))(t:aB)(ts:List aB):fQ rd ay o body rest (t::ts)=match t.rd with
  |(mk,.raise z)=>(mk,.raise z)
  |(mk,.vals vs)=>after mk (c8 rd ay o body rest ts vs):=by
 unfold fQ c8;rw[jl.eq_2];induction t.rd using qn with
 |mk m w=>induction w using dK.casesOn with
  |raise z=>rfl
  |vals vs=>
   dsimp only;induction j8 ay vs using qn with
   |mk m2 oo=>induction oo using wL.casesOn with
    |hit=>simp[after]
    |raise z=>simp[after]
    |miss=>
     dsimp only;unfold fQ;induction jl ay ts using qn with
     |mk m3 o3=>induction o3 using wL.casesOn<;>simp[after]
theorem lR(rest:List (List aB×α))(ts:List aB)(v:Val)(vs:List Val):c8 rd ay o body rest ts (v::vs)=match wO ay v with
  |(mk,.raise z)=>(mk,.raise z)
  |(mk,.val x)=>if x.holds=true then after mk (rd body)else after mk (c8 rd ay o body rest ts vs):=by
 unfold c8;rw[j8.eq_2];induction wO ay v using qn with
 |mk m w=>induction w using bu.casesOn with
  |raise z=>rfl
  |val x=>
   dsimp only;by_cases h:x.holds=true
   ·rw[if_pos h,if_pos h]
   ·rw[if_neg h,if_neg h];induction j8 ay vs using qn with
    |mk m2 oo=>induction oo using wL.casesOn<;>simp[after]
end
theorem yP{α:Type}{rd:α→Rd}{s:Option Val}{o:Option α}{b:α}{r:List (List aB×α)}{t:aB}{ts:List aB}{m:List Mark}{z:Rz}(e:t.rd=(m,.raise z)):fQ rd s o b r (t::ts)=(m,.raise z):=by rw[qX,e]
theorem AG{α:Type}{rd:α→Rd}{s:Option Val}{o:Option α}{b:α}{r:List (List aB×α)}{t:aB}{ts:List aB}{m:List Mark}{xs:List Val}(e:t.rd=(m,.vals xs)):fQ rd s o b r (t::ts)=after m (c8 rd s o b r ts xs):=by rw[qX,e]
def Fp(m:Mark):Prop:=match m with
 |.made i=>0≤i∧i≤8
 |.asked a b=>a.ok∧b.ok
 |.guard i=>0≤i∧i≤5
 |.bound n b=>(n.length≤100∧ni n)∧b.ok
def BZ(z:Rz):Prop:=match z with
 |.int i=>0≤i∧i≤100
 |.str s=>∃x:Val,x.ok∧s="NoMatchingPatternError "++eB x
def oX(w:bu):Prop:=match w with
 |.val x=>x.ok
 |.raise z=>BZ z
theorem oX.w{w:bu}(h:oX w):CR w:=by
 induction w using bu.casesOn with
 |val=>exact h
 |raise=>exact trivial
def xX(l:List Mark):Prop:=∀m∈l,Fp m
structure Mk (b:Nat) (l:List Mark):Prop where
 m:xX l
 l:l.length≤b
section
variable{m:List Mark}
theorem Mk.le(h:Mk b m)(hb:b≤c):Mk c m:=⟨h.m,qB h.l hb⟩
theorem Mk.app(h:Mk b m)(h2:Mk c k):Mk (b+c) (m++k):=⟨fun a ha=>(List.mem_append.mp ha).elim (h.m a) (h2.m a),List.length_append▸Nat.add_le_add h.l h2.l⟩
theorem Mk.one(ha:Fp a):Mk 1 [a]:=⟨fun y hy=>(List.mem_singleton.mp hy).symm▸ha,qf 1⟩
theorem Mk.nil:Mk b []:=⟨(fun _ h=>nomatch h),qm b⟩
end
structure G {β:Type} (ok:β→Prop) (b:Nat) (r:List Mark×β):Prop where
 w:ok r.2
 k:Mk b r.1
abbrev GR(b:Nat)(r:Rd):Prop:=G oX b r
theorem G.le{β:Type}{ok:β→Prop}{b c:Nat}{r:List Mark×β}(h:G ok b r)(hb:b≤c):G ok c r:=⟨h.w,h.k.le hb⟩
def u6(n:Nat)(a:dK):Prop:=match a with
 |.vals xs=>xs.length≤n∧∀x∈xs,x.ok
 |.raise z=>BZ z
def AH(s:Option Val):Prop:=match s with
 |none=>True
 |some x=>x.ok
def WL(t:wL):Prop:=match t with
 |.raise z=>BZ z
 |_=>True
def DA(f:fc):Prop:=match f with
 |.raise z=>BZ z
 |_=>True
theorem wX{l:aH}(h:l.ok):GR 1 l.rd:=by
 induction l using aH.casesOn with
 |int i=>exact⟨h,.one h⟩
 |nil=>exact⟨trivial,.nil⟩
 |gX i=>exact⟨h,.nil⟩
theorem HR:(∀l∈ls,l.ok)→G (u6 ls.length) ls.length (bZ ls):=by
 induction ls with
 |nil=>exact fun _=>⟨⟨qf 0,fun _ h=>nomatch h⟩,.nil⟩
 |cons l ls ih=>
  intro ok;have h1:=wX (ok l qi);have h2:=ih fun a h=>ok a (qj _ h);have e:1+ls.length≤(l::ls).length:=qH (Nat.add_comm 1 _);rw[bZ];generalize l.rd=q at h1;obtain⟨m,q⟩:=q;induction q using bu.casesOn with
  |raise z=>exact⟨h1.w,h1.k.le (qg 1 _)⟩
  |val x=>
   generalize bZ ls=q at h2;obtain⟨m2,q⟩:=q;induction q using dK.casesOn with
   |raise z=>exact⟨h2.w,(h1.k.app h2.k).le e⟩
   |vals xs=>exact⟨⟨Nat.succ_le_succ h2.w.1,fun y hy=>(List.mem_cons.mp hy).elim (fun q=>q▸h1.w) (h2.w.2 y)⟩,(h1.k.app h2.k).le e⟩
theorem u6.le(h:u6 n a)(e:n≤m):u6 m a:=by
 induction a using dK.casesOn with
 |vals xs=>exact⟨qB h.1 e,h.2⟩
 |raise z=>exact h
theorem M1{t:aB}(h:t.ok):G (u6 3) 3 t.rd:=by
 induction t using aB.casesOn with
 |leaf l=>
  have g:=HR (ls:=[l]) fun a q=>(List.mem_singleton.mp q)▸h;exact⟨u6.le g.w (by decide:1≤3),g.k.le (by decide:1≤3)⟩
 |iM ls=>
  have g:=HR h.2;exact⟨u6.le g.w h.1,g.k.le h.1⟩
 |jb l=>induction l using aH.casesOn with
  |int i=>exact⟨⟨(by decide:1≤3),fun x q=>(List.mem_singleton.mp q)▸h⟩,(Mk.one (a:=.made i) h).le (by decide)⟩
  |nil=>exact⟨⟨(by decide:0≤3),fun _ q=>nomatch q⟩,.nil⟩
  |gX i=>exact⟨h,.nil⟩
theorem HS{t:aB}(ok:t.ok)(xs:List Val)(e:t.rd.2=.vals xs):xs.length≤3∧∀x∈xs,x.ok:=by
 have g:=(M1 ok).w;rw[e]at g;exact g
theorem M3{t:aB}(ok:t.ok)(e:t.rd=(m,.vals xs)):xs.length≤3∧∀x∈xs,x.ok:=HS ok xs (congrArg Prod.snd e)
theorem Fq:oX (cN a b):=by
 unfold cN
 split
 ·exact⟨by decide,by decide⟩
 ·exact BY _
theorem P7:oX (dM n):=by
 unfold dM
 split
 ·exact⟨by decide,by decide⟩
 ·split
  ·exact⟨by decide,by decide⟩
  ·exact BY n
theorem WM(hs:AH s)(hv:v.ok):GR 1 (wO s v):=by
 induction s using qe with
 |none=>exact⟨hv,.nil⟩
 |some x=>exact⟨Fq,.one ⟨hv,hs⟩⟩
theorem P8(hs:AH s):(∀x∈vs,x.ok)→G WL vs.length (j8 s vs):=by
 induction vs with
 |nil=>exact fun _=>⟨trivial,.nil⟩
 |cons v vs ih=>
  intro ok;have h1:=WM hs (ok v qi);have h2:=ih fun a h=>ok a (qj _ h);rw[j8.eq_2];generalize wO s v=q at h1;obtain⟨m,q⟩:=q;have l1:1≤(v::vs).length:=qg 1 _;induction q using bu.casesOn with
  |raise z=>exact⟨h1.w,h1.k.le l1⟩
  |val y=>
   show G WL _ (if y.holds=true then(m,.hit)else(m++(j8 s vs).1,(j8 s vs).2));induction y.holds using qd with
   |true=>exact⟨trivial,h1.k.le l1⟩
   |false=>exact⟨h2.w,(h1.k.app h2.k).le (qH (Nat.add_comm 1 _))⟩
theorem J1(hs:AH s){ts:List aB}:(∀t∈ts,t.ok)→G WL (6*ts.length) (jl s ts):=by
 induction ts with
 |nil=>exact fun _=>⟨trivial,.nil⟩
 |cons t ts ih=>
  intro ok;have h1:=M1 (ok t qi);have h2:=ih fun a h=>ok a (qj _ h);have e:3+3+6*ts.length≤6*(t::ts).length:=by rw[List.length_cons];lia
  rw[jl.eq_2];generalize t.rd=q at h1;obtain⟨m,q⟩:=q;induction q using dK.casesOn with
  |raise z=>exact⟨h1.w,h1.k.le (by exact fG)⟩
  |vals xs=>
   have h3:=P8 hs h1.w.2;have hx:=h1.w.1;dsimp only;generalize j8 s xs=q at h3⊢;obtain⟨m2,q⟩:=q;have h4:=h1.k.app (h3.k.le hx);induction q using wL.casesOn with
   |miss=>exact⟨h2.w,(h4.app h2.k).le e⟩
   |hit=>exact⟨trivial,h4.le (by exact fG)⟩
   |raise z=>exact⟨h3.w,h4.le (by lia)⟩
theorem HU{α:Type}{rd:α→Rd}{b:Nat}{z:bu}(hz:oX z){o:Option α}(h:∀a,o=some a→GR b (rd a)):GR b (lM rd z o):=by
 induction o using qe with
 |none=>exact⟨hz,.nil⟩
 |some a=>exact h a rfl
theorem oN(h:Mk b m)(h2:GR c r)(l:b+c≤e):GR e (after m r):=⟨h2.w,(h.app h2.k).le l⟩
theorem HV{α:Type}{rd:α→Rd}{b:Nat}{s:Option Val}{o:Option α}(hs:AH s)(ho:∀a,o=some a→GR b (rd a)){ws:List (List aB×α)}:(∀w∈ws,((1≤w.1.length∧w.1.length≤2)∧∀t∈w.1,t.ok)∧GR b (rd w.2))→GR (12*ws.length+b) (eZ rd s o ws):=by
 induction ws with
 |nil=>exact fun _=>(HU (z:=.val .none) trivial ho).le (qg b 0)
 |cons w ws ih=>
  intro h;obtain⟨ts,bd⟩:=w;obtain⟨⟨l2,ht⟩,hb⟩:=h _ qi;have ih:=ih fun a q=>h a (qj _ q);have h3:=J1 hs ht;have l2:ts.length≤2:=l2.2;have e:6*ts.length+(12*ws.length+b)≤12*((ts,bd)::ws).length+b:=by rw[List.length_cons];lia
  show GR _ (match jl s ts with|(mk,.raise z)=>(mk,.raise z)|(mk,.hit)=>after mk (rd bd)|(mk,.miss)=>after mk (eZ rd s o ws));generalize jl s ts=q at h3;obtain⟨m,q⟩:=q;induction q using wL.casesOn with
  |raise z=>exact⟨h3.w,h3.k.le (by exact Q9 ‹_›)⟩
  |hit=>exact oN h3.k hb (by lia)
  |miss=>exact oN h3.k ih e
theorem M4{l:aH}(ok:l.ok)(hx:x.ok):G DA 2 (l.fits x):=by
 have h1:=wX ok;induction e:l.rd using qn with
 |mk m q=>
  rw[e]at h1;induction q using bu.casesOn with
  |raise z=>rw[AF e];exact⟨h1.w,h1.k.le (qM 1)⟩
  |val y=>
   rw[Fl e];have h2:=Fq (a:=y) (b:=x);exact⟨(by generalize cN y x=q at h2;induction q using bu.casesOn with|raise=>exact h2|val=>exact trivial:DA (Sn (cN y x))),h1.k.app (Mk.one (a:=.asked y x) ⟨h1.w,hx⟩)⟩
theorem M5{x:Val}(hx:x.ok):(∀l∈ls,l.ok)→G DA (2*ls.length) (cV x ls):=by
 induction ls with
 |nil=>exact fun _=>⟨trivial,.nil⟩
 |cons l ls ih=>
  intro ok;have h1:=M4 (ok l qi) hx;have h2:=ih fun a h=>ok a (qj _ h);have e:2+2*ls.length≤2*(l::ls).length:=by rw[List.length_cons];lia
  rw[cV.eq_2];generalize l.fits x=q at h1;obtain⟨m,q⟩:=q;induction q using fc.casesOn with
  |raise z=>exact⟨h1.w,h1.k.le (by exact fG)⟩
  |val b=>induction b using qd with
   |true=>exact⟨trivial,h1.k.le (by lia)⟩
   |false=>exact⟨h2.w,(h1.k.app h2.k).le e⟩
theorem B3{x:Val}{q:cL}(ok:q.ok)(hx:x.ok):G DA 6 (q.fits x):=by
 induction q using cL.casesOn with
 |bind n=>exact⟨trivial,(Mk.one (a:=.bound n x) ⟨ok,hx⟩).le (by decide)⟩
 |lit l=>exact(M4 ok hx).le (by decide)
 |alt ls=>exact(M5 hx ok.2).le (by have:=ok.1;lia)
theorem CS(hx:x.ok):BZ (jD x):=⟨x,hx,rfl⟩
theorem WN{α:Type}{rd:α→Rd}{b:Nat}{x:Val}{o:Option α}(hx:x.ok)(ho:∀a,o=some a→GR b (rd a)){as:List (cL×Option Int×α)}:(∀a∈as,a.1.ok∧oH a.2.1∧GR b (rd a.2.2))→GR (7*as.length+b) (cJ rd x o as):=by
 induction as with
 |nil=>exact fun _=>(HU (z:=.raise (jD x)) (CS hx) ho).le (qg b 0)
 |cons a as ih=>
  intro h;obtain⟨q,g,bd⟩:=a;obtain⟨hq,hg,hb⟩:=h _ qi;have ih:=ih fun a q=>h a (qj _ q);have h3:=B3 hq hx;have e:6+1+(7*as.length+b)≤7*((q,g,bd)::as).length+b:=by rw[List.length_cons];lia
  have e1:6+1≤7*((q,g,bd)::as).length+b:=by exact Q9 ‹_›
  rw[cJ.eq_2];generalize q.fits x=f at h3;obtain⟨m,f⟩:=f;induction f using fc.casesOn with
  |raise z=>exact⟨h3.w,h3.k.le (by exact qK ‹_›)⟩
  |val v=>induction v using qd with
   |false=>exact oN h3.k ih (by lia)
   |true=>induction g using qe with
    |none=>exact oN h3.k hb (by lia)
    |some n=>
     have h4:=h3.k.app (Mk.one (a:=.guard n) hg);have h5:=P7 (n:=n);show GR _ (match dM n with|.raise z=>(m++[.guard n],.raise z)|.val M6=>if M6.holds=true then after (m++[.guard n]) (rd bd)else after (m++[.guard n]) (cJ rd x o as));generalize dM n=u at h5;induction u using bu.casesOn with
     |raise z=>exact⟨h5,h4.le e1⟩
     |val y=>
      show GR _ (if y.holds=true then _ else _);induction y.holds using qd with
      |true=>exact oN h4 hb (by lia)
      |false=>exact oN h4 ih e
theorem AI(h:GR b r)(hf:∀x,x.ok→GR c (f x))(l:b+c≤e):GR e (cY r f):=by
 obtain⟨m,w⟩:=r;induction w using bu.casesOn with
 |raise z=>exact⟨h.w,h.k.le (by exact Q9 ‹_›)⟩
 |val x=>exact oN h.k (hf x h.w) l
theorem P9(hq:q.ok)(hx:x.ok):GR 6 (gK q x):=by
 have h:=B3 hq hx;unfold gK;generalize q.fits x=f at h;obtain⟨m,f⟩:=f;induction f using fc.casesOn with
 |raise z=>exact⟨h.w,h.k⟩
 |val b=>exact⟨trivial,h.k⟩
theorem Qa(hq:q.ok)(hx:x.ok):GR 6 (d9 q x):=by
 have h:=B3 hq hx;unfold d9;generalize q.fits x=f at h;obtain⟨m,f⟩:=f;induction f using fc.casesOn with
 |raise z=>exact⟨h.w,h.k⟩
 |val b=>induction b using qd with
  |true=>exact⟨trivial,h.k⟩
  |false=>exact⟨CS hx,h.k⟩
theorem mE{d:Nat}:∀{t:Tree d},Tree.ok d t→GR (mB d) (Tree.rd d t):=by
 induction d with
 |zero=>exact fun ok=>wX ok
 |succ d ih=>
  intro t ok;have hb:mB (d+1)=40+2*mB d:=rfl;have oo:∀{o:Option (Tree d)},oS (Tree.ok d) o→∀a,o=some a→GR (mB d) (Tree.rd d a):=fun h a e=>ih (by subst e;exact h);have t:Tr (Tree d):=t
  rename_i t0
  have t:Tr (Tree d):=t0;show GR (40+2*mB d) (Tr.rd (Tree.rd d) t0);replace ok:Tr.ok (Tree.ok d) t0:=ok;induction t0 using Tr.casesOn with
  |leaf l=>exact(wX ok).le (by lia)
  |jR s ws o=>
   have hl:ws.length≤3:=ok.2.1.1;have hw:∀w∈ws,((1≤w.1.length∧w.1.length≤2)∧∀t∈w.1,t.ok)∧GR (mB d) (Tree.rd d w.2):=fun w h=>⟨(ok.2.1.2 w h).1,ih (ok.2.1.2 w h).2⟩;induction s using qe with
   |none=>exact(HV (s:=none) trivial (oo ok.2.2) hw).le (by lia)
   |some s=>exact AI (ih ok.1) (fun x hx=>HV (s:=some x) hx (oo ok.2.2) hw) (by lia)
  |jB s as o=>
   have hl:as.length≤3:=ok.2.1.1;exact AI (ih ok.1) (fun x hx=>WN hx (oo ok.2.2) fun a h=>⟨(ok.2.1.2 a h).1,(ok.2.1.2 a h).2.1,ih (ok.2.1.2 a h).2.2⟩) (by lia)
  |j7 s q=>exact AI (ih ok.1) (fun x hx=>P9 ok.2 hx) (by lia)
  |jC s q=>exact AI (ih ok.1) (fun x hx=>Qa ok.2 hx) (by lia)
noncomputable def J2(r:aA cC):cC:=match r with
 |.ok p=>p
 |_=>((.brk,[]),[])
noncomputable def yQ(r:aA cC):Out:=(J2 (strip r)).1.1
noncomputable def sY(r:aA cC):ai:=(J2 (strip r)).1.2
noncomputable def lS(r:aA cC):St:=(J2 (strip r)).2
section
theorem M7(h:JJ s=true)(q:Q (J2 s)):Good S pre s Q:=by
 cases s with
 |ok=>exact q
 |_=>exact ft h
theorem wY(h:iL r=true)(n:ja r)(q:Q ((yQ r,sY r),lS r)):Gd S pre r Q:=⟨gk n.out (M7 h q)⟩
end
section
variable{K:Frag}{Z:List V}
theorem AJ(e:t.rd=(m,x)):(cS.fW t).out=(m,x.v):=congrArg (fun q:List Mark×dK=>(q.1,q.2.v)) e
theorem u7(d:Nat):3*d+17≤3*d+18:=qM _
theorem B4(d:Nat):3*d+17≤3*d+19:=qr _ 2
theorem So(d:Nat):11≤3*d+18:=qg 11 (3*d+7)
theorem Sp(d:Nat):8≤3*d+18:=qg 8 (3*d+10)
theorem AL(h:3+d<n):1<n:=by lia
theorem d7(t:Tt Z v m u M):Tt Z v (m++[]) u M:=(List.append_nil m).symm▸t
noncomputable def cN1(tv:V):ai:=[("tree",tv),("marks",V.loc 0),("subject",V.none),("has_subject",V.bool false)]
noncomputable def cN2(tv ts b:V):ai:=[("tree",tv),("marks",V.loc 0),("subject",V.none),("has_subject",V.bool false),("tests",ts),("body",b)]
noncomputable def Sq(tv ts b c u:V):ai:=[("tree",tv),("marks",V.loc 0),("subject",V.none),("has_subject",V.bool false),("tests",ts),("body",b),("check",c),("way",u)]
theorem Qc(hn:3+d<n)(ws:List (List aB×Tree d))(o:Option (Tree d))(ok:gO ws)(Fj:oS (Tree.ok d) o)(z:ux Z v)(t:Tt Z v (eZ (Tree.rd d) none o ws).1 (eZ (Tree.rd d) none o ws).2.v mk):
  Gd (dS n) aI (nN p w K n (3*d+19) iK [Tree.v (d+1) (pC d (.jR none ws o))] mk) (wW Z v):=by
 let tv:=Tree.v (d+1) (pC d (.jR none ws o))
 let r0:=nN p w K n (3*d+19) iK [tv] mk
 show Gd _ _ r0 _;refine ic u0 (fun _=>cN1 tv) (fun M:List V=>[.list [] M]) (fun b M=>Tt Z v (eZ (Tree.rd d) none o b).1 (eZ (Tree.rd d) none o b).2.v M∧gO b) ⟨t,ok⟩ (fun x ws M t P AD hr=> ?_) fun M t=> ?_
 ·obtain⟨ts,b⟩:=x;obtain⟨t,eL⟩:=t;obtain⟨⟨_,gu⟩,B5⟩:=eL _ qi;have zA:gO ws:=fun a h=>eL a (qj _ h)
  let r1:=i8 r0 (u0 (ts,b)) (cN1 tv) [.list [] M]
  show Gd _ _ r1 _;have R1:∀u M,Tt Z v [] u M→∀m,Gd (dS n) aI (i9 r1 ((.ret u,m),[.list [] M])) P:=fun u M t m=>iu hr u [.list [] M] fun m=>dH t z;refine ic aB.v (fun _=>cN2 tv (.lst (ts.map aB.v)) (Tree.v d b)) (fun M:List V=>[.list [] M]) (fun ts M=>Tt Z v (fQ (Tree.rd d) none o b ws ts).1 (fQ (Tree.rd d) none o b ws ts).2.v M∧∀t∈ts,t.ok) ⟨t,gu⟩ (fun c cg M t P AA hr=> ?_) fun M t=>jE AD M ⟨t.1,zA⟩;obtain⟨t,gu⟩:=t;have sW:=gu c qi;have gu:∀t∈cg,t.ok:=fun a h=>gu a (qj _ h)
  let r2:=i8 r1 c.v (cN2 tv (.lst (ts.map aB.v)) (Tree.v d b)) [.list [] M]
  show Gd _ _ r2 _;induction e:c.rd using qn with
  |mk m a=>
   induction a using dK.casesOn with
   |raise y=>
    rw[yP e]at t;exact bS (.fW c) (3*d+18) (AL hn) (So d) sW z (AJ e) (d7 t) fun t=>iu hr (dK.raise y).v [.list [] (M++m.map Mark.v)] (R1 _ _ t)
   |vals xs=>
    rw[AG e]at t;refine bS (.fW c) (3*d+18) (AL hn) (So d) sW z (AJ e) t fun t=> ?_
    let r3:=mD r2 (dK.vals xs).v (M++m.map Mark.v)
    show Gd _ _ r3 _;have R2:∀u M,Tt Z v [] u M→∀m,Gd (dS n) aI (i9 r3 ((.ret u,m),[.list [] M])) P:=fun u M t m=>iu hr u [.list [] M] (R1 u M t);refine ic Val.v (fun _=>Sq tv (.lst (ts.map aB.v)) (Tree.v d b) c.v (dK.vals xs).v) (fun M:List V=>[.list [] M]) (fun xs M=>Tt Z v (c8 (Tree.rd d) none o b ws cg xs).1 (c8 (Tree.rd d) none o b ws cg xs).2.v M) t (fun y ys M t P Ss hr=> ?_) fun M t=>jE AA M ⟨t,gu⟩;rw[lR]at t;have hit:Tt Z v (Tree.rd d b).1 (Tree.rd d b).2.v M→Sm (i8 r3 y.v (Sq tv (.lst (ts.map aB.v)) (Tree.v d b) c.v (dK.vals xs).v) [.list [] M])=some (True,3*d+18,1210,[Tree.v d b,.loc 0],some ([],M))→
     uZ (fun _=>[]) (mD (i8 r3 y.v (Sq tv (.lst (ts.map aB.v)) (Tree.v d b) c.v (dK.vals xs).v) [.list [] M]) (Tree.rd d b).2.v (M++(Tree.rd d b).1.map Mark.v))=some (True,.ret (Tree.rd d b).2.v,[],[.list [] (M++(Tree.rd d b).1.map Mark.v)])→Gd (dS n) aI (i8 r3 y.v (Sq tv (.lst (ts.map aB.v)) (Tree.v d b) c.v (dK.vals xs).v) [.list [] M]) P:=
     fun t h h2=>bS (.tree d b) (3*d+18) hn (u7 d) B5 z rfl (d7 t) (fun t=>iu hr _ _ (R2 _ _ t) h2) h
    induction y using Val.casesOn with
    |none=>exact jE Ss M t
    |int i=>exact hit t ⋯ ⋯
    |bool b=>induction b using qd with
     |true=>exact hit t ⋯ ⋯
     |false=>exact jE Ss M t
 ·induction o using qe with
  |none=>exact dH t.1 z
  |some a=>exact bS (.tree d a) (3*d+18) hn (u7 d) Fj z rfl (d7 t.1) fun t=>dH t z
noncomputable def cS1(tv x u:V):ai:=[("tree",tv),("marks",V.loc 0),("subject",x),("has_subject",V.bool true),("way",u)]
noncomputable def cS2(tv x ts b u:V):ai:=[("tree",tv),("marks",V.loc 0),("subject",x),("has_subject",V.bool true),("way",u),("tests",ts),("body",b)]
noncomputable def WO(tv x ts b c u:V):ai:=[("tree",tv),("marks",V.loc 0),("subject",x),("has_subject",V.bool true),("way",u),("tests",ts),("body",b),("check",c)]
theorem Qd(hn:3+d<n)(s:Tree d)(ws:List (List aB×Tree d))(o:Option (Tree d))(jF:Tree.ok d s)(ok:gO ws)(Fj:oS (Tree.ok d) o)(z:ux Z v)(t:Tt Z v (cY (Tree.rd d s) fun x=>eZ (Tree.rd d) (some x) o ws).1 (cY (Tree.rd d s) fun x=>eZ (Tree.rd d) (some x) o ws).2.v mk):
  Gd (dS n) aI (nN p w K n (3*d+19) iK [Tree.v (d+1) (pC d (.jR (some s) ws o))] mk) (wW Z v):=by
 have hx:=(mE jF).w.w
 let tv:=Tree.v (d+1) (pC d (.jR (some s) ws o))
 let r:=nN p w K n (3*d+19) iK [tv] mk
 show Gd _ _ r _;induction e:Tree.rd d s using qn with
 |mk m0 a=>
 rw[e]at t hx;induction a using bu.casesOn with
 |raise y=>exact bS (.tree d s) (3*d+18) hn (u7 d) jF z (pF e) (d7 t) fun t=>dH t z
 |val x=>
 refine bS (.tree d s) (3*d+18) hn (u7 d) jF z (pF e) t fun t=> ?_
 let r0:=mD r (bu.val x).v (mk++m0.map Mark.v)
 show Gd _ _ r0 _;refine ic u0 (fun s:List V×V=>cS1 tv x.v s.2) (fun s=>[.list [] s.1]) (fun b s=>Tt Z v (eZ (Tree.rd d) (some x) o b).1 (eZ (Tree.rd d) (some x) o b).2.v s.1∧gO b) (s0:=(_,(bu.val x).v)) ⟨t,ok⟩ (fun q ws s t P AD hr=> ?_) fun s t=> ?_
 ·obtain⟨ts,b⟩:=q;obtain⟨M,u⟩:=s;obtain⟨t,eL⟩:=t;obtain⟨⟨_,gu⟩,B5⟩:=eL _ qi;have zA:gO ws:=fun a h=>eL a (qj _ h)
  let r1:=i8 r0 (u0 (ts,b)) (cS1 tv x.v u) [.list [] M]
  show Gd _ _ r1 _;have R1:∀u M,Tt Z v [] u M→∀m,Gd (dS n) aI (i9 r1 ((.ret u,m),[.list [] M])) P:=fun u M t m=>iu hr u [.list [] M] fun m=>dH t z;refine ic aB.v (fun s:List V×V=>cS2 tv x.v (.lst (ts.map aB.v)) (Tree.v d b) s.2) (fun s=>[.list [] s.1]) (fun ts s=>Tt Z v (fQ (Tree.rd d) (some x) o b ws ts).1 (fQ (Tree.rd d) (some x) o b ws ts).2.v s.1∧∀t∈ts,t.ok) (s0:=(M,u)) ⟨t,gu⟩ (fun c cg s t P AA hr=> ?_) fun s t=>jE AD s ⟨t.1,zA⟩;obtain⟨M,u⟩:=s;obtain⟨t,gu⟩:=t;have sW:=gu c qi;have gu:∀t∈cg,t.ok:=fun a h=>gu a (qj _ h)
  let r2:=i8 r1 c.v (cS2 tv x.v (.lst (ts.map aB.v)) (Tree.v d b) u) [.list [] M]
  show Gd _ _ r2 _;induction e:c.rd using qn with
  |mk m a=>
   induction a using dK.casesOn with
   |raise y=>
    rw[yP e]at t;exact bS (.fW c) (3*d+18) (AL hn) (So d) sW z (AJ e) (d7 t) fun t=>iu hr (dK.raise y).v [.list [] (M++m.map Mark.v)] (R1 _ _ t)
   |vals xs=>
    rw[AG e]at t;refine bS (.fW c) (3*d+18) (AL hn) (So d) sW z (AJ e) t fun t=> ?_
    let r3:=mD r2 (dK.vals xs).v (M++m.map Mark.v)
    show Gd _ _ r3 _;have R2:∀u M,Tt Z v [] u M→∀m,Gd (dS n) aI (i9 r3 ((.ret u,m),[.list [] M])) P:=fun u M t m=>iu hr u [.list [] M] (R1 u M t);refine ic Val.v (fun _=>WO tv x.v (.lst (ts.map aB.v)) (Tree.v d b) c.v (dK.vals xs).v) (fun M:List V=>[.list [] M]) (fun xs M=>Tt Z v (c8 (Tree.rd d) (some x) o b ws cg xs).1 (c8 (Tree.rd d) (some x) o b ws cg xs).2.v M∧∀y∈xs,y.ok) ⟨t,(M3 sW e).2⟩ (fun y ys M t P Ss hr=> ?_) fun M t=>jE AA (M,(dK.vals xs).v) ⟨t.1,gu⟩;obtain⟨t,HW⟩:=t;have aa3:∀a∈ys,a.ok:=fun a h=>HW a (qj _ h);rw[lR,show wO (some x) y=([.asked y x],cN y x)from rfl]at t
    let r4:=i8 r3 y.v (WO tv x.v (.lst (ts.map aB.v)) (Tree.v d b) c.v (dK.vals xs).v) [.list [] M]
    show Gd _ _ r4 _;have oa:(cS.asked y x).out=([.asked y x],(cN y x).v):=rfl;have HW:=HW y qi;generalize cN y x=a at t oa;have hit:∀a,Tt Z v ([.asked y x]++(Tree.rd d b).1) (Tree.rd d b).2.v M→(cS.asked y x).out=([.asked y x],a)→Sm (mD r4 a (M++[Mark.asked y x].map Mark.v))=some (True,3*d+18,1210,[Tree.v d b,.loc 0],some ([],M++[Mark.asked y x].map Mark.v))→
     uZ (fun _=>[]) (mD (mD r4 a (M++[Mark.asked y x].map Mark.v)) (Tree.rd d b).2.v ((M++[Mark.asked y x].map Mark.v)++(Tree.rd d b).1.map Mark.v))=some (True,.ret (Tree.rd d b).2.v,[],[.list [] ((M++[Mark.asked y x].map Mark.v)++(Tree.rd d b).1.map Mark.v)])→Gd (dS n) aI r4 P:=
     fun a t oa h h2=>bS (.asked y x) (3*d+18) (qI hn) (Sp d) ⟨HW,hx⟩ z oa t fun t=>bS (.tree d b) (3*d+18) hn (u7 d) B5 z rfl (d7 t) (fun t=>iu hr _ _ (R2 _ _ t) h2) h
    have miss:∀a,Tt Z v ([.asked y x]++(c8 (Tree.rd d) (some x) o b ws cg ys).1) (c8 (Tree.rd d) (some x) o b ws cg ys).2.v M→(cS.asked y x).out=([.asked y x],a)→uZ (lu r3) (mD r4 a (M++[Mark.asked y x].map Mark.v))=some (True,.next,WO tv x.v (.lst (ts.map aB.v)) (Tree.v d b) c.v (dK.vals xs).v,[.list [] (M++[Mark.asked y x].map Mark.v)])→Gd (dS n) aI r4 P:=
     fun a t oa h=>bS (.asked y x) (3*d+18) (qI hn) (Sp d) ⟨HW,hx⟩ z oa t fun t=>jE Ss _ ⟨t,aa3⟩ h
    induction a using bu.casesOn with
    |raise f=>exact bS (.asked y x) (3*d+18) (qI hn) (Sp d) ⟨HW,hx⟩ z oa (d7 t) fun t=>iu hr (bu.raise f).v [.list [] (M++[Mark.asked y x].map Mark.v)] (R2 _ _ t)
    |val a=>induction a using Val.casesOn with
     |none=>exact miss _ t oa ⋯
     |int i=>exact hit _ t oa ⋯ ⋯
     |bool b=>induction b using qd with
      |true=>exact hit _ t oa ⋯ ⋯
      |false=>exact miss _ t oa ⋯
 ·induction o using qe with
  |none=>exact dH t.1 z
  |some a=>exact bS (.tree d a) (3*d+18) hn (u7 d) Fj z rfl (d7 t.1) fun t=>dH t z
end
theorem AM(ok:x.ok):(Str.ofString "NoMatchingPatternError "++eB x).length≤sizeLine:=
 of_decide_eq_true (mY (f:=fun x=>decide ((Str.ofString "NoMatchingPatternError "++eB x).length≤sizeLine)) (g:=fun _=>true) ⋯ ok)
theorem Ft(ok:(Val.int i).ok):i.natAbs.log2+1≤1920:=by
 have h1:=Nat.log2_le_self i.natAbs;have h2:0≤i∧i≤8:=ok;lia
def Fv(x:Val):Prop:=match x with
 |.int i=>i.natAbs.log2+1≤1920∧(Str.ofString "NoMatchingPatternError "++eB (.int i)).length≤sizeLine∧True
 |x=>(Str.ofString "NoMatchingPatternError "++eB x).length≤sizeLine∧True
theorem CT(ok:x.ok):Fv x:=by
 induction x using Val.casesOn with
 |int i=>exact⟨Ft ok,AM ok,trivial⟩
 |_=>exact⟨AM ok,trivial⟩
section
variable{K:Frag}{Z:List V}
theorem rj(q:cL)(x:Val)(h:3+d<n):(cS.fits q x).rk<n:=by induction q using cL.casesOn<;>show _<n<;>simp only[cS.rk,cL.rk]<;>lia
theorem rq(q:cL)(x:Val):(cS.fits q x).dp≤3*d+18:=by induction q using cL.casesOn<;>first|exact qg 11 _|exact qg 14 _
theorem M8(hn:3+d<n)(s:Tree d)(q:cL)(ok:Tree.ok d s∧q.ok)(z:ux Z v)(t:Tt Z v (cY (Tree.rd d s) (gK q)).1 (cY (Tree.rd d s) (gK q)).2.v mk):
  Gd (dS n) aI (nN p w K n (3*d+19) iK [Tree.v (d+1) (pC d (.j7 s q))] mk) (wW Z v):=by
 have hx:=(mE ok.1).w.w;induction e:Tree.rd d s using qn with
 |mk m a=>
 rw[e]at t hx;induction a using bu.casesOn with
 |raise y=>exact bS (.tree d s) (3*d+19) hn (B4 d) ok.1 z (pF e) (d7 t) fun t=>dH t z
 |val x=>
 replace t:Tt Z v (m++(gK q x).1) (gK q x).2.v mk:=t;refine bS (.tree d s) (3*d+19) hn (B4 d) ok.1 z (pF e) t fun t=> ?_;induction f:q.fits x using qn with
 |mk m2 a=>
 unfold gK at t;rw[f]at t;induction a using fc.casesOn with
 |raise y=>exact bS (.fits q x) (3*d+18) (rj q x hn) (rq q x) ⟨ok.2,hx⟩ z (nP f) (d7 t) fun t=>dH t z
 |val b=>exact bS (.fits q x) (3*d+18) (rj q x hn) (rq q x) ⟨ok.2,hx⟩ z (nP f) (d7 t) fun t=>dH t z
theorem M9(hn:3+d<n)(s:Tree d)(q:cL)(ok:Tree.ok d s∧q.ok)(z:ux Z v)(t:Tt Z v (cY (Tree.rd d s) (d9 q)).1 (cY (Tree.rd d s) (d9 q)).2.v mk):
  Gd (dS n) aI (nN p w K n (3*d+19) iK [Tree.v (d+1) (pC d (.jC s q))] mk) (wW Z v):=by
 have hx:=(mE ok.1).w.w
 let r:=nN p w K n (3*d+19) iK [Tree.v (d+1) (pC d (.jC s q))] mk
 show Gd _ _ r _;induction e:Tree.rd d s using qn with
 |mk m a=>
 rw[e]at t hx;induction a using bu.casesOn with
 |raise y=>exact bS (.tree d s) (3*d+19) hn (B4 d) ok.1 z (pF e) (d7 t) fun t=>dH t z
 |val x=>
 replace t:Tt Z v (m++(d9 q x).1) (d9 q x).2.v mk:=t;refine bS (.tree d s) (3*d+19) hn (B4 d) ok.1 z (pF e) t fun t=> ?_
 let M:=mk++m.map Mark.v
 induction f:q.fits x using qn with
 |mk m2 a=>
 unfold d9 at t;rw[f]at t;induction a using fc.casesOn with
 |raise y=>exact bS (.fits q x) (3*d+18) (rj q x hn) (rq q x) ⟨ok.2,hx⟩ z (nP f) (d7 t) fun t=>dH t z
 |val b=>induction b using qd with
  |true=>exact bS (.fits q x) (3*d+18) (rj q x hn) (rq q x) ⟨ok.2,hx⟩ z (nP f) (d7 t) fun t=>dH t z
  |false=>
   have key:jG.map (fun x=>yO (mD (mD r (bu.val x).v M) (fc.val false).v (M++m2.map Mark.v)))=jG.map fun x=>some (Fv x,(bu.raise (jD x)).v,some (AO.list [] (M++m2.map Mark.v))):=⋯;exact bS (.fits q x) (3*d+18) (rj q x hn) (rq q x) ⟨ok.2,hx⟩ z (nP f) (d7 t) fun t=>ri t z (CT hx) (mY key hx)
end
section
variable{K:Frag}{Z:List V}{v:V}
theorem Ut(e:dM i=a):(cS.guard i).out=([.guard i],a.v):=congrArg (fun w:bu=>([Mark.guard i],w.v)) e
theorem Tt.asc(t:Tt Z v (a++b++c) u M):Tt Z v (a++(b++c)) u M:=List.append_assoc a b c▸t
noncomputable def WQ(tv x:V):ai:=[("tree",tv),("value",x),("marks",.loc 0)]
theorem Na(hn:3+d<n)(s:Tree d)(as:List (cL×Option Int×Tree d))(o:Option (Tree d))(jF:Tree.ok d s)(ok:oJ as)(Fj:oS (Tree.ok d) o)(z:ux Z v)(t:Tt Z v (cY (Tree.rd d s) fun x=>cJ (Tree.rd d) x o as).1 (cY (Tree.rd d s) fun x=>cJ (Tree.rd d) x o as).2.v mk):
  Gd (dS n) aI (nN p w K n (3*d+19) iK [Tree.v (d+1) (pC d (.jB s as o))] mk) (wW Z v):=by
 have hx:=(mE jF).w.w
 let tv:=Tree.v (d+1) (pC d (.jB s as o))
 let r:=nN p w K n (3*d+19) iK [tv] mk
 show Gd _ _ r _;induction e:Tree.rd d s using qn with
 |mk m0 a=>
 rw[e]at t hx;induction a using bu.casesOn with
 |raise y=>exact bS (.tree d s) (3*d+19) hn (B4 d) jF z (pF e) (d7 t) fun t=>dH t z
 |val x=>
 refine bS (.tree d s) (3*d+19) hn (B4 d) jF z (pF e) t fun t=> ?_
 let r0:=mD r (bu.val x).v (mk++m0.map Mark.v)
 show Gd _ _ r0 _;refine ic tP (fun _=>WQ tv x.v) (fun M:List V=>[.list [] M]) (fun b M=>Tt Z v (cJ (Tree.rd d) x o b).1 (cJ (Tree.rd d) x o b).2.v M∧oJ b) ⟨t,ok⟩ (fun q as M t P AD hr=> ?_) fun M t=> ?_
 ·obtain⟨q,g,b⟩:=q;obtain⟨t,eL⟩:=t;obtain⟨HN,Nb,B5⟩:=eL _ qi;have zA:oJ as:=fun a h=>eL a (qj _ h)
  let r1:=i8 r0 (tP (q,g,b)) (WQ tv x.v) [.list [] M]
  show Gd _ _ r1 _;have R1:∀u M,Tt Z v [] u M→∀m,Gd (dS n) aI (i9 r0 ((.ret u,m),[.list [] M])) (wW Z v):=fun u M t m=>dH t z;have F:∀{m:List Mark} {a:fc} {ms:List Mark} {u:V},q.fits x=(m,a)→Tt Z v (m++ms) u M→(Tt Z v ms u (M++m.map Mark.v)→Gd (dS n) aI (mD r1 a.v (M++m.map Mark.v)) P)→Gd (dS n) aI r1 P:=fun f t h=>bS (.fits q x) (3*d+18) (rj q x hn) (rq q x) ⟨HN,hx⟩ z (nP f) t h;rw[cJ.eq_2]at t;induction f:q.fits x using qn with
  |mk m a=>
   rw[f]at t;induction a using fc.casesOn with
   |raise y=>exact F f (d7 t) fun t=>iu hr (fc.raise y).v [.list [] (M++m.map Mark.v)] (R1 _ _ t)
   |val c=>induction c using qd with
    |false=>induction g using qe<;>exact F f t fun t=>jE AD _ ⟨t,zA⟩
    |true=>induction g using qe with
     |none=>exact F f t fun t=>bS (.tree d b) (3*d+18) hn (u7 d) B5 z rfl (d7 t) fun t=>iu hr (Tree.rd d b).2.v [.list [] ((M++m.map Mark.v)++(Tree.rd d b).1.map Mark.v)] (R1 _ _ t)
     |some i=>
      have t:Tt Z v (match dM i with
       |.raise z=>(m++[.guard i],.raise z)
       |.val M6=>if M6.holds=true then after (m++[.guard i]) (Tree.rd d b)else after (m++[.guard i]) (cJ (Tree.rd d) x o as):Rd).1 (match dM i with
       |.raise z=>(m++[.guard i],.raise z)
       |.val M6=>if M6.holds=true then after (m++[.guard i]) (Tree.rd d b)else after (m++[.guard i]) (cJ (Tree.rd d) x o as):Rd).2.v M:=t
      let r2:=mD r1 (fc.val true).v (M++m.map Mark.v)
      have A:∀{a:bu} {ms:List Mark} {u:V},dM i=a→Tt Z v (m++([.guard i]++ms)) u M→(Tt Z v ms u (M++m.map Mark.v++[Mark.guard i].map Mark.v)→Gd (dS n) aI (mD r2 a.v (M++m.map Mark.v++[Mark.guard i].map Mark.v)) P)→Gd (dS n) aI r1 P:=
       fun f2 t h=>F f t fun t=>bS (.guard i) (3*d+18) (qI hn) (Sp d) Nb z (Ut f2) t h
      have hit:∀a,dM i=a→Tt Z v (m++[.guard i]++(Tree.rd d b).1) (Tree.rd d b).2.v M→Sm (mD r2 a.v (M++m.map Mark.v++[Mark.guard i].map Mark.v))=some (True,3*d+18,1210,[Tree.v d b,.loc 0],some ([],M++m.map Mark.v++[Mark.guard i].map Mark.v))→
       uZ (fun _=>[]) (mD (mD r2 a.v (M++m.map Mark.v++[Mark.guard i].map Mark.v)) (Tree.rd d b).2.v ((M++m.map Mark.v++[Mark.guard i].map Mark.v)++(Tree.rd d b).1.map Mark.v))=some (True,.ret (Tree.rd d b).2.v,[],[.list [] ((M++m.map Mark.v++[Mark.guard i].map Mark.v)++(Tree.rd d b).1.map Mark.v)])→Gd (dS n) aI r1 P:=
       fun a f2 t h h2=>A f2 t.asc fun t=>bS (.tree d b) (3*d+18) hn (u7 d) B5 z rfl (d7 t) (fun t=>iu hr _ _ (R1 _ _ t) h2) h
      induction f2:dM i using bu.casesOn with
      |raise y=>rw[f2]at t;exact A f2 (d7 t).asc fun t=>iu hr (bu.raise y).v [.list [] (M++m.map Mark.v++[Mark.guard i].map Mark.v)] (R1 _ _ t)
      |val y=>
       rw[f2]at t;induction y using Val.casesOn with
       |none=>exact A f2 (Tt.asc t) fun t=>jE AD _ ⟨t,zA⟩
       |int j=>exact hit _ f2 t ⋯ ⋯
       |bool c=>induction c using qd with
        |true=>exact hit _ f2 t ⋯ ⋯
        |false=>exact A f2 (Tt.asc t) fun t=>jE AD _ ⟨t,zA⟩
 ·induction o using qe with
  |none=>
   have key:jG.map (fun x=>yO (i9 (mD r (bu.val x).v (mk++m0.map Mark.v)) ((.next,WQ tv x.v),[.list [] M])))=jG.map fun x=>some (Fv x,(bu.raise (jD x)).v,some (AO.list [] M)):=⋯;exact ri t.1 z (CT hx) (mY key hx)
  |some a=>exact bS (.tree d a) (3*d+18) hn (u7 d) Fj z rfl (d7 t.1) fun t=>dH t z
end
theorem Nc{x:cS}:Tt (x.all mk) x.val x.marks x.val mk:=⟨rfl,rfl⟩
theorem Zn{K:Frag}{n d:Nat}{t:Tr (Tree d)}(hn:3+d<n)(ok:Tr.ok (Tree.ok d) t):AE p w K n (3*d+19) iK (.tree (d+1) (pC d t)):=fun mk z=>by
 induction t using Tr.casesOn with
 |leaf l=>exact BX (k:=3*d+12) l mk z
 |jR s ws o=>induction s using qe with
  |none=>exact Qc hn ws o ok.2.1.2 ok.2.2 z Nc
  |some s=>exact Qd hn s ws o ok.1 ok.2.1.2 ok.2.2 z Nc
 |jB s as o=>exact Na hn s as o ok.1 ok.2.1.2 ok.2.2 z Nc
 |j7 s q=>exact M8 hn s q ok z Nc
 |jC s q=>exact M9 hn s q ok z Nc
theorem WR{K:Frag}{n:Nat}(x:cS)(hr:x.rk≤n)(ok:x.ok):∃(k:Nat) (fd:FuncData),k+1≤x.dp∧n6 x.fn (az p w K n).tab.fns=some (fd,[])∧AE p w K n k fd x:=by
 induction x using cS.casesOn with
 |leaf l=>exact⟨7,iK,qf 8,⋯,BX (k:=0) l⟩
 |asked a b=>exact⟨7,Aw,qf 8,⋯,P5 (k:=0) a b ok.1 ok.2⟩
 |guard i=>exact⟨7,wH,qf 8,⋯,P6 (k:=0) i ok⟩
 |fW t=>exact⟨10,E1,qf 11,⋯,MY (k:=0) hr t ok⟩
 |fits q x=>
  induction q using cL.casesOn with
  |bind m=>exact⟨10,pB,qf 11,⋯,Fo (k:=0) m x⟩
  |lit l=>exact⟨10,pB,qf 11,⋯,GP (k:=0) hr l x ok.1 ok.2⟩
  |alt ls=>exact⟨13,pB,qf 14,⋯,GQ (k:=0) hr ls x ok.1.2 ok.2⟩
 |tree d t=>
  induction d using qk with
  |zero=>exact⟨7,iK,qg 8 9,⋯,BX (k:=0) t⟩
  |succ d=>
   exact⟨3*d+19,iK,qf _,⋯,Zn (t:=t) hr ok⟩
theorem u9(h:aJ a=true):bB [a]=true:=dh h rfl
theorem Fx(h:aJ a=true)(h2:aJ b=true):bB [a,b]=true:=dh h (dh h2 rfl)
theorem GS(x:cS):bB x.args=true:=by
 induction x using cS.casesOn with
 |leaf l=>exact u9 (gf l)
 |asked a b=>exact Fx (bN a) (bN b)
 |fW t=>exact u9 (mz t)
 |fits q x=>exact Fx (lP q) (bN x)
 |tree d t=>exact u9 (fN d t)
 |guard i=>exact rfl
theorem vN(x:cS):aJ x.val=true:=by
 induction x using cS.casesOn with
 |leaf l=>exact lQ _
 |asked a b=>exact lQ _
 |fW t=>show aJ t.rd.2.v=true;induction t.rd.2 using dK.casesOn with
  |raise z=>exact lQ (.raise z)
  |vals xs=>exact lO (jc _) (MJ _)
 |fits q x=>show aJ (q.fits x).2.v=true;induction(q.fits x).2 using fc.casesOn with
  |raise z=>exact lQ (.raise z)
  |val b=>kernel_rfl
 |tree d t=>exact lQ _
 |guard i=>exact lQ _
def Zo(x:Val)(p:V×St):Prop:=∀af:Nat→Addr,(∀k,k<p.2.length→af k≠sysModules)→∃v',Fz af 0 p.2 false p.1 v'∧aJ v'=true∧v'=.str (eB x)
theorem Uu{K:Frag}{n:Nat}{x:Val}(ok:x.ok):Gd (dS n) aI (fV (cX (az p w K n) 60) 7 Du [.int 6] [] [x.v] []) (Zo x):=by
 have key:jG.map (fun x=>(zx (vw (fV (cX (az p w K n) 60) 7 Du [.int 6] [] [x.v] []))).map fun q=>(q.1,q.2.1))=jG.map fun x=>some ((match x with|.int i=>i.natAbs.log2+1≤1920∧True|_=>True),.str (eB x)):=⋯;obtain⟨⟨q,v,st⟩,e,h⟩:=Option.map_eq_some_iff.mp (mY key ok);injection h with h1 h2;refine oU (fun af _=>⟨_,.closed (h2▸jc _),h2▸jc _,h2⟩) (h1▸ ?_) (rg e);induction x using Val.casesOn with
 |int i=>exact⟨Ft ok,trivial⟩
 |_=>exact trivial
theorem xY(p:Program)(w:World)(K:Frag)(n:Nat):Kept (az p w K n):=by
 induction n with
 |zero=>
  refine oM fun d a A I σ st s E args ys Q W ha H r hp hk=> ?_;rcases hp with⟨x,l,mk,hr,_⟩|⟨hr,_⟩<;>exact absurd hr (qp _)
 |succ n ih=>
  refine oM fun d a A I σ st s E args ys Q W ha H r hp hk=> ?_;have Sd:=eX ih 60;rcases hp with⟨x,l,mk,hr,rfl,rfl,hd,ok,e,hm,hw⟩|⟨hr,x,ok,rfl,rfl,hd,hw⟩
  ·obtain⟨k,fd,hk1,hf,g⟩:=WR (p:=p) (w:=w) (K:=K) x (qO hr) ok;refine P4 (cx:=az p w K n) (fd:=(fd,[])) (W:=fun v' o'=>v'=x.val∧o'=.list [] (x.all mk)) Sd hf (H.to (qB hk1 hd)) (listAt_eq e) (tR hm.1) (GS x) r (Good.mono (fun q hq af=> ?_) (g mk ⟨hm,vN x⟩).out) fun v' o' w=>w.1▸w.2▸hk _ _ hw;exact⟨x.val,_,(hq af).1,(hq af).2,vN x,hm.1,rfl,rfl⟩
  ·exact HP (cx:=az p w K n) (fd:=(Du,[.int 6])) (W:=fun v'=>v'=.str (eB x)) Sd ⋯ (H.to hd) (u9 (bN x)) r (Uu ok).out fun v' e=>by rw[e];exact hk _ _ hw
section
noncomputable def nQ(c:Nat):AO→Bool
 |.inst _ d=>Nat.blt d c
 |.list _ vs=>uN c vs
 |.dict fs=>pO c fs
theorem Fy(li:f7 I I')(ls:∀k,k<c→af k=σ k)(hm:c≤m)(h:dw I P σ n o x)(e:nQ c o=true):dw I' P af m o x:=by
 induction h using dw.casesOn with
 |inst C d hd=>
  have hk:d<c:=Nat.blt_eq.mp e;rw[←ls d hk];exact .inst C d (by exact qy ‹_› ‹_›)
 |list ep hp r=>exact .list ep hp (D8 li ls hm r e)
 |dict ep r=>exact .dict ep (D9 li ls hm r e)
end
mutual
inductive Fw (c:Nat) (aD:List Nat) (z:Nat→Prop) (σ:Nat→Addr) (st:St):Bool→V→V→Prop
 |closed {m:Bool} {v:V} (h:aJ v=true):Fw c aD z σ st m v v
 |fix {v:V} (h:kC c v=true):Fw c aD z σ st false v v
 |loc {j k:Nat} (h:aD[j]? =some k):Fw c aD z σ st false (.loc k) (.loc j)
 |num {m:Bool} (i:Int):Fw c aD z σ st m (.num i) (.int i)
 |Nd {m:Bool} (i:Int):Fw c aD z σ st m (.int i) (.num i)
 |nC {m:Bool} (b:Bool):Fw c aD z σ st m (.nC b) (.bool b)
 |aL {m:Bool} (k:Nat):Fw c aD z σ st m (.loc k) (.aL (.ref (σ k)))
 |tup {m:Bool} {vs ws:List V} (h:yR c aD z σ st m vs ws):Fw c aD z σ st m (.tup vs) (.tup ws)
 |lst {m:Bool} {k:Nat} {vs ws:List V} (hk:z k) (e:st[k]? =some (.list [] vs)) (h:yR c aD z σ st true vs ws):Fw c aD z σ st m (.loc k) (.lst ws)
 |inst {m:Bool} {k d:Nat} {C:Addr} {fs gs:ai} (hk:z k) (hd:z d) (e:st[k]? =some (.inst C d)) (e':st[d]? =some (.dict fs)) (h:mF c aD z σ st true fs gs):Fw c aD z σ st m (.loc k) (.inst C gs)
inductive yR (c:Nat) (aD:List Nat) (z:Nat→Prop) (σ:Nat→Addr) (st:St):Bool→List V→List V→Prop
 |nil {m:Bool}:yR c aD z σ st m [] []
 |cons {m:Bool} {v w:V} {vs ws:List V} (h:Fw c aD z σ st m v w) (r:yR c aD z σ st m vs ws):yR c aD z σ st m (v::vs) (w::ws)
inductive mF (c:Nat) (aD:List Nat) (z:Nat→Prop) (σ:Nat→Addr) (st:St):Bool→ai→ai→Prop
 |nil {m:Bool}:mF c aD z σ st m [] []
 |cons {m:Bool} {x:Str} {v w:V} {vs ws:ai} (h:Fw c aD z σ st m v w) (r:mF c aD z σ st m vs ws):mF c aD z σ st m ((x,v)::vs) ((x,w)::ws)
end
inductive mG (c:Nat) (aD:List Nat) (z:Nat→Prop) (σ:Nat→Addr) (st:St):AO→AO→Prop
 |fix {o:AO} (h:nQ c o=true):mG c aD z σ st o o
 |inst (C:Addr) {d d':Nat} (h:aD[d']? =some d):mG c aD z σ st (.inst C d) (.inst C d')
 |list {pre:LV} {vs ws:List V} (h:yR c aD z σ st false vs ws):mG c aD z σ st (.list pre vs) (.list pre ws)
 |under {pre:LV} {k:Nat} {vs ws:List V} (hp:pre.length<100000) (h:yR c aD z σ st false vs ws):mG c aD z σ st (.list pre (.loc k::vs)) (.list (pre++[.ref (σ k)]) ws)
 |dict {fs gs:ai} (h:mF c aD z σ st false fs gs):mG c aD z σ st (.dict fs) (.dict gs)
structure nR (c:Nat) (aD:List Nat) (z:Nat→Prop) (σ:Nat→Addr) (st st':St):Prop where
 len:st'.length=aD.length
 vc:∀(k:Nat),k<c→aD[k]? =some k
 inj:∀(i j k:Nat),aD[i]? =some k→aD[j]? =some k→i=j
 lt:∀(j k:Nat),aD[j]? =some k→k<st.length∧¬z k
 at':∀(j k:Nat) (o o':AO),aD[j]? =some k→st[k]? =some o→st'[j]? =some o'→mG c aD z σ st o o'
open Classical in
noncomputable def c9(I:IM)(σ:Nat→Addr)(z:Nat→Prop)(n:Nat)(h:Heap):IM:=fun b=>match I b with
 |some o=>some o
 |none=>if∃k,z k∧k<n∧σ k=b then h.get? b else none
section
variable{P:Params}{aD:List Nat}{st:St}
theorem fT:f7 I (c9 I σ z n h):=fun b o e=>by unfold c9;rw[e]
theorem gR(e:c9 I σ z n h b=some o):I b=some o∨(I b=none∧h.get? b=some o∧∃k,z k∧k<n∧σ k=b):=by
 unfold c9 at e
 split at e
 ·rename_i o' q;rw[q];exact .inl e
 ·rename_i q
  split at e
  ·rename_i hk;exact .inr ⟨q,e,hk⟩
  ·exact nn e
open Classical in
theorem vd(r:cG P I σ st h)(hk:z k)(hl:k<st.length)(g:h.get? (σ k)=some o):c9 I σ z st.length h (σ k)=some o:=by
 unfold c9;rw[r.out k hl];show(if _ then _ else _)=_;rw[if_pos ⟨k,hk,hl,rfl⟩];exact g
noncomputable def dY(aD:List Nat)(σ:Nat→Addr):Nat→Addr:=fun j=>match aD[j]? with
 |some k=>σ k
 |none=>0
theorem eF(e:aD[j]? =some k):dY aD σ j=σ k:=by unfold dY;rw[e]
theorem Nf(hf:∀k,k<c→aD[k]? =some k):c≤aD.length:=by
 induction c using qk with
 |zero=>exact qm _
 |succ c=>exact(List.getElem?_eq_some_iff.mp (hf c (qE c))).1
theorem WS(r:cG P I σ st h)(hk:z k)(e:st[k]? =some (.list [] vs))(ih:∀ys,aG I P σ st.length vs ys→aG (c9 I σ z st.length h) P (ly true (dY aD σ)) (cnt true aD.length) ws ys)(hv:aq I P σ st.length (.loc k) y):
  aq (c9 I σ z st.length h) P (ly m (dY aD σ)) (cnt m aD.length) (.lst ws) y:=by
 have q:=uu r e hv;clear hv;induction q using uY.casesOn with
 |mk hl g q=>induction q using jZ.casesOn with|mk ep hp rr=>exact .lst (vd r hk hl g) (ih _ rr)
theorem Uv(r:cG P I σ st h)(hk:z k)(hd:z d)(e:st[k]? =some (.inst C d))(e':st[d]? =some (.dict fs))(ih:∀ys,bF I P σ st.length fs ys→bF (c9 I σ z st.length h) P (ly true (dY aD σ)) (cnt true aD.length) gs ys)
  (hv:aq I P σ st.length (.loc k) y):aq (c9 I σ z st.length h) P (ly m (dY aD σ)) (cnt m aD.length) (.inst C gs) y:=by
 have q:=uu r e hv;clear hv;induction q using uY.casesOn with
 |mk hl g q=>induction q using rG.casesOn with
  |mk Ly=>
   obtain⟨Wy,g',Az⟩:=r.cells d _ e';have q':=Az.inv;clear Az;induction q' using kP.casesOn with|mk ep rr=>exact .inst (vd r hk hl g) (vd r hd Ly g') (ih _ rr)
theorem FA(r:cG P I σ st h)(hf:∀k,k<c→aD[k]? =some k)(f:Fw c aD z σ st m v w)(hv:aq I P σ st.length v y):aq (c9 I σ z st.length h) P (ly m (dY aD σ)) (cnt m aD.length) w y:=
 Fw.rec (motive_1:=fun m v w _=>∀y,aq I P σ st.length v y→aq (c9 I σ z st.length h) P (ly m (dY aD σ)) (cnt m aD.length) w y)
  (motive_2:=fun m vs ws _=>∀y,aG I P σ st.length vs y→aG (c9 I σ z st.length h) P (ly m (dY aD σ)) (cnt m aD.length) ws y)
  (motive_3:=fun m vs ws _=>∀y,bF I P σ st.length vs y→bF (c9 I σ z st.length h) P (ly m (dY aD σ)) (cnt m aD.length) ws y)
  (fun q y hv=>((kg hv q).mono (Le.zero fT)).toM _) (fun q y hv=>oE fT (fun k hk=>eF (hf k hk)) (Nf hf) hv q)
  (fun q y hv=>(by obtain⟨_⟩:=hv.inv;exact eF (σ:=σ) q▸.loc (σ:=dY aD σ) _ (List.getElem?_eq_some_iff.mp q).1))
  (fun i y hv=>(by obtain⟨_⟩:=hv.inv;exact .int _ _)) (fun i y hv=>(by obtain⟨_⟩:=hv.inv;exact .num _ _)) (fun b y hv=>(hv.inv:y=_)▸.bool _) (fun k y hv=>(by obtain⟨_⟩:=hv.inv;exact .aL _))
  (fun _ ih y hv=>(by obtain⟨g,rr⟩:=hv.inv;exact .tup (fT _ _ g) (ih _ rr)))
  (fun hk e _ ih y hv=>WS r hk e ih hv) (fun hk hd e e' _ ih y hv=>Uv r hk hd e e' ih hv)
  (fun y hv=>(hv.inv:y=_)▸.nil) (fun _ _ h1 h2 y hv=>(by obtain⟨hx,hr⟩:=hv.inv;exact .cons (h1 _ hx) (h2 _ hr)))
  (fun y hv=>(hv.inv:y=_)▸.nil) (fun _ _ h1 h2 y hv=>(by obtain⟨hx,hr⟩:=hv.inv;exact .cons (h1 _ hx) (h2 _ hr))) f y hv
theorem HX(r:cG P I σ st h)(hf:∀k,k<c→aD[k]? =some k):∀{ws:List V} {ys:LV},yR c aD z σ st m vs ws→aG I P σ st.length vs ys→aG (c9 I σ z st.length h) P (ly m (dY aD σ)) (cnt m aD.length) ws ys:=by
 induction vs with
 |nil=>intro ws ys f hv;cases f;replace hv:=hv.inv;cases hv;exact .nil
 |cons v vs ih=>intro ws ys f hv;cases f with|cons q qs=>replace hv:=hv.inv;cases hv with|mk hx hr=>exact .cons (FA r hf q hx) (ih qs hr)
theorem Uw(r:cG P I σ st h)(hf:∀k,k<c→aD[k]? =some k):∀{ws:List (Str×V)} {ys:List DictEntry},mF c aD z σ st m vs ws→bF I P σ st.length vs ys→bF (c9 I σ z st.length h) P (ly m (dY aD σ)) (cnt m aD.length) ws ys:=by
 induction vs with
 |nil=>intro ws ys f hv;cases f;replace hv:=hv.inv;cases hv;exact .nil
 |cons v vs ih=>intro ws ys f hv;cases f with|cons q qs=>replace hv:=hv.inv;cases hv with|mk hx hr=>exact .cons (FA r hf q hx) (ih qs hr)
theorem Ux(r:cG P I σ st h)(hf:∀k,k<c→aD[k]? =some k)(f:mG c aD z σ st o o')(q:dw I P σ st.length o ob):dw (c9 I σ z st.length h) P (dY aD σ) aD.length o' ob:=by
 induction f using mG.casesOn with
 |fix e=>exact Fy fT (fun k hk=>eF (hf k hk)) (Nf hf) q e
 | @inst C d d' e=>
  replace q:=q.inv;induction q using rG.casesOn
  rw[←eF (σ:=σ) e];exact .inst C d' (List.getElem?_eq_some_iff.mp e).1
 |list f=>
  replace q:=q.inv;induction q using jZ.casesOn with|mk ep hp rr=>exact .list ep hp (HX (m:=false) r hf f rr)
 | @under pre k vs ws hp f=>
  replace q:=q.inv;induction q using jZ.casesOn with
  |mk ep hp' rr=>
   replace rr:=rr.inv;induction rr using dP.casesOn with
   |mk h1 rr=>
    replace h1:=h1.inv;induction h1 using iG.casesOn
    have key:=dw.list (I:=c9 I σ z st.length h) (P:=P) (σ:=dY aD σ) (n:=aD.length) (pre:=pre++[Value.ref (σ k)]) ep (by rw[List.length_append];exact hp) (HX (m:=false) r hf f rr);rw[←List.append_cons]at key;exact key
 |dict f=>
  replace q:=q.inv;induction q using kP.casesOn with|mk ep rr=>exact .dict ep (Uw (m:=false) r hf f rr)
theorem cG.choose(r:cG P I σ st h)(f:nR c aD z σ st st'):cG P (c9 I σ z st.length h) (dY aD σ) st' h:=by
 have get:∀j,j<st'.length→∃k,aD[j]? =some k∧k<st.length∧¬z k:=fun j hj=>by
  have LD:j<aD.length:=by rw[←f.len];exact hj
  exact⟨aD[j],qw LD,f.lt j _ (qw LD)⟩
 refine⟨fun b o e=> ?_,fun j o' e=> ?_,fun i j hi hj e=> ?_,fun j hj=> ?_⟩
 ·rcases gR e with q|⟨_,q,_⟩
  ·exact r.sub b o q
  ·exact q
 ·obtain⟨k,ek,hk,hz⟩:=get j (List.getElem?_eq_some_iff.mp e).1;have e0:st[k]? =some st[k]:=qw hk;obtain⟨ob,g,gB⟩:=r.cells k _ e0;rw[eF ek,f.len];exact⟨ob,g,Ux r f.vc (f.at' j k _ _ ek e0 e) gB⟩
 ·obtain⟨k,ek,hk,_⟩:=get i hi;obtain⟨k',ek',nE,_⟩:=get j hj;rw[eF ek,eF ek']at e;have:=r.inj k k' hk nE e;subst this;exact f.inj i j k ek ek'
 ·obtain⟨k,ek,hk,hz⟩:=get j hj;rw[eF ek];induction q:c9 I σ z st.length h (σ k)using qe with
  |none=>rfl
  |some o=>
   rcases gR q with q|⟨_,_,k',hz',nE,e'⟩
   ·rw[r.out k hk]at q;exact nn q
   ·have:=r.inj k' k nE hk e';subst this;exact absurd hz' hz
end
inductive lZ (c:Nat) (aD:List Nat) (z:Nat→Prop) (σ:Nat→Addr) (st:St):List Nat→St→Prop
 |nil:lZ c aD z σ st [] []
 |cons {k:Nat} {ks:List Nat} {o o':AO} {os:St} (e:st[k]? =some o) (h:mG c aD z σ st o o') (r:lZ c aD z σ st ks os):lZ c aD z σ st (k::ks) (o'::os)
section
variable{st os:St}
theorem lZ.len(h:lZ c aD z σ st ks os):os.length=ks.length:=by
 induction h with
 |nil=>rfl
 |cons _ _ _ ih=>exact congrArg Nat.succ ih
theorem lZ.at(h:lZ c aD z σ st ks os):∀(i k:Nat),ks[i]? =some k→k<st.length∧∀o o',st[k]? =some o→os[i]? =some o'→mG c aD z σ st o o':=by
 induction h with
 |nil=>exact fun i k h=>nn h
 |cons e h r ih=>
  intro i k hk;induction i using qk with
  |zero=>obtain rfl:=qc hk;exact⟨(List.getElem?_eq_some_iff.mp e).1,fun o o' h2 h3=>by rw[e]at h2;cases h2;cases h3;exact h⟩
  |succ i=>exact ih i k hk
theorem lZ.append(h:lZ c aD z σ st ks os)(h2:lZ c aD z σ st Ng os2):lZ c aD z σ st (ks++Ng) (os++os2):=by
 induction h with
 |nil=>exact h2
 |cons e h _ ih=>exact .cons e h ih
noncomputable def WT(c:Nat)(ks zs:List Nat):Bool:=decide (ks.take c=List.range c)&&(ks.all (fun k=> !zs.contains k)&&decide ks.Nodup)
theorem wZ(ok:WT c ks zs=true)(h:lZ c ks (· ∈zs) σ st ks os):nR c ks (· ∈zs) σ st os:=by
 unfold WT at ok;simp only[Bool.and_eq_true,List.all_eq_true,decide_eq_true_eq,Bool.not_eq_true',List.contains_eq_mem,decide_eq_false_iff_not]at ok;obtain⟨k1,k2,k3⟩:=ok;refine⟨h.len,fun k hk=> ?_,fun i j k e1 e2=> ?_,fun j k e=>⟨(h.at j k e).1,k2 _ (qC e)⟩,fun j k o o' e=>(h.at j k e).2 o o'⟩
 ·rw[←List.getElem?_take_of_lt hk,k1,List.getElem?_range hk]
 ·exact(List.getElem?_inj (List.getElem?_eq_some_iff.mp e1).1 k3).mp (e1.trans e2.symm)
end
theorem xZ:pO c m=true→lk x m=some v→kC c v=true:=by
 induction m with
 |nil=>exact fun _=>nn
 |cons p m ih=>exact fun h e=>jh e (fun _ e=>qc e▸(bk h).1) fun _ e=>ih (bk h).2 e
theorem av.choose(l:av P fe m env I σ n h)(hm:pO c m=true)(hf:fe.free=[])
  (fx:∀k,k<c→aD[k]? =some k)(lt:∀(j k:Nat),aD[j]? =some k→k<n):av P fe m env (c9 I σ z n h) (dY aD σ) aD.length h:=by
 have hc:c≤aD.length:=by
  induction c using qk with
  |zero=>exact qm _
  |succ c=>exact(List.getElem?_eq_some_iff.mp (fx c (qE c))).1
 have up:∀{v:V} {y:Value},kC c v=true→aq I P σ n v y→aq (c9 I σ z n h) P (dY aD σ) aD.length v y:=fun e r=>oE fT (fun k hk=>eF (fx k hk)) hc r e;refine⟨l.scope,l.kind,l.glob,l.blt, ?_,fun x v e hk=> ?_,l.there,fun x v e=> ?_,fun b hb=>⟨?_,fun j hj=> ?_⟩,l.ne,l.inj⟩
 ·obtain⟨mm,h1,h2⟩:=l.ns;refine⟨mm,h1,fun x v e hk=> ?_⟩;obtain⟨y,e1,r⟩:=h2 x v e hk;exact⟨y,e1,up (xZ hm e) r⟩
 ·obtain⟨d,y,h1,h2,r⟩:=l.cell x v e hk;exact⟨d,y,h1,h2,up (xZ hm e) r⟩
 ·rw[hf]at e;exact nn e
 ·obtain⟨h1,h2⟩:=l.apart b hb;induction q:c9 I σ z n h b using qe with
  |none=>rfl
  |some o=>
   rcases gR q with q|⟨_,_,k,_,hk,e⟩
   ·rw[h1]at q;exact nn q
   ·exact absurd e (h2 k hk)
 ·have ej:aD[j]? =some aD[j]:=qw hj;rw[eF ej];exact(l.apart b hb).2 _ (lt j _ ej)
set_option genInjectivity false in
structure Lp where
 k:Nat
 A:Around
 fe:FE
 env:Env
 m:ai
 test:Expr
 body:List Stmt
 R:SP
 E:dU
noncomputable def qY(cx:Cx)(L:Lp):Nat→SP
 |0,_=>False
 |n+1,s=>wpAny cx.M L.A (isTrue L.test L.env (eval L.test L.env)) (fun b br=>(b=true→wpAny cx.M L.A (execs L.body L.env) (fun f jP=>f=.next∧qY cx L n jP) L.E br)∧(b=false→L.R br)) L.E s
theorem CU:∀{n:Nat} {s:Shared},qY cx L n s→qY cx L (n+1) s
 |0,_,h=>h.elim
 |n+1,s,h=>wpAny_mono h (fun b br hb=>⟨fun e=>wpAny_mono (hb.1 e) (fun f jP hf=>⟨hf.1,CU hf.2⟩) fun _ _ x=>x,hb.2⟩) fun _ _ x=>x
theorem Uy(h:n≤n')(r:qY cx L n s):qY cx L n' s:=by
 induction h with
 |refl=>exact r
 |step _ ih=>exact CU ih
set_option genInjectivity false in
structure Bs where
 X:Addr→Prop
 I:IM
 σ:Nat→Addr
 s:Shared
structure fJ (c:Nat) (B:Bs) (I:IM) (σ:Nat→Addr) (n:Nat) (s:Shared):Prop where
 i:f7 B.I I
 sg:∀k,k<c→σ k=B.σ k
 fresh:∀b o,I b=some o→B.I b=some o∨B.s.heap.get? b=none∨B.X b
 own:∀k,c≤k→k<n→B.X (σ k)∨B.s.heap.get? (σ k)=none
 keep:∀b o,B.s.heap.get? b=some o→¬B.X b→(∀k,k<c→B.σ k≠b)→s.heap.get? b=some o
 alive:∀b o,B.s.heap.get? b=some o→∃o',s.heap.get? b=some o'
 same:bw B.s s
def At(cx:Cx)(L:Lp)(c:Nat)(B:Bs)(st:St)(N:Nat):Prop:=
 ∀I σ s,fJ c B I σ st.length s→au cx L.k L.A I σ st s→av cx.P L.fe L.m L.env I σ st.length s.heap→qY cx L N s
theorem At.le{B:Bs}{st:St}{N N':Nat}(h:N≤N')(a:At cx L c B st N):At cx L c B st N':=fun I σ s x y z=>Uy h (a I σ s x y z)
noncomputable def DB(ev:Ev)(L:Lp)(st:St):aA cC:=(ev.t L.k L.fe L.m st L.test).bind fun p=>match p.1 with
 |true=>ev.b L.k L.fe L.m p.2 L.body
 |false=>.bad
theorem fJ.choose(w:fJ c B I σ n s)(hc:c≤n)(hX:∀b,X b→B.X b)
  (x:aM P X I σ n s.heap dj bH bW br.heap)(sm:bw s br)(f:nR c aD z bH bW st'):fJ c B (c9 dj bH z bW.length br.heap) (dY aD bH) st'.length br:=by
 have dead:∀{b:Addr},s.heap.get? b=none→B.s.heap.get? b=none:=fun{b} e=>by
  induction q:B.s.heap.get? b using qe with
  |none=>rfl
  |some o=>obtain⟨o',e'⟩:=w.alive b o q;rw[e]at e';exact nn e'
 have FG:∀k,c≤k→k<bW.length→B.X (bH k)∨B.s.heap.get? (bH k)=none:=fun k h1 h2=>by
  by_cases q:k<n
  ·rw[x.le.s k q];exact w.own k h1 q
  ·exact .inr (dead (x.new k (qA q) h2))
 have aa4:∀(j k:Nat),c≤j→aD[j]? =some k→c≤k:=fun j k h1 e=>by
  rcases qR k c with q|q
  ·have:=f.inj j k k e (f.vc k q);lia
  ·exact q
 refine⟨fun b o e=>fT _ _ (x.le.i b o (w.i b o e)),fun k hk=> ?_,fun b o e=> ?_,fun j h1 h2=> ?_,fun b o e h1 h2=> ?_,fun b o e=> ?_,w.same.trans sm⟩
 ·rw[eF (f.vc k hk),x.le.s k (by exact qy ‹_› ‹_›)];exact w.sg k hk
 ·rcases gR e with q|⟨_,_,k,hz,hk,e'⟩
  ·rcases x.fresh b o q with q|q
   ·exact w.fresh b o q
   ·exact .inr (.inl (dead q))
  ·have nE:c≤k:=by
    rcases qR k c with q|q
    ·exact absurd hz (f.lt k k (f.vc k q)).2
    ·exact q
   rw[←e'];rcases FG k nE hk with q|q
   ·exact .inr (.inr q)
   ·exact .inr (.inl q)
 ·have hj:j<aD.length:=by rw[←f.len];exact h2
  have ej:aD[j]? =some aD[j]:=qw hj;rw[eF ej];exact FG _ (aa4 j _ h1 ej) (f.lt j _ ej).1
 ·refine x.keep b o (w.keep b o e h1 h2) (fun q=>h1 (hX b q)) fun k hk q=> ?_;rcases qR k c with g|g
  ·rw[w.sg k g]at q;exact h2 k g q
  ·rcases w.own k g hk with q'|q'
   ·rw[q]at q';exact h1 q'
   ·rw[q,e]at q';exact ns q'
 ·obtain⟨o',e'⟩:=w.alive b o e;exact x.alive b o' e'
theorem Uz{c:Nat}{B:Bs}{st:St}{N:Nat}(S:aU cx ev)(hX:∀b,aF L.env b→B.X b)(hm:pO c L.m=true)(hf:L.fe.free=[])(hc:c≤st.length)
  (g:Good cx.S cx.pre (DB ev L st) fun p=>p.1.1=.next∧p.1.2=L.m∧∀σ,(∀k,k<p.2.length→σ k≠sysModules)→∃aD z st',nR c aD z σ p.2 st'∧At cx L c B st' N):At cx L c B st (N+1):=by
 intro I σ s w H l;unfold DB at g;refine S.tt H l g fun bG aZ aX s₁ b aV aO aY bD aQ=>⟨fun eb=> ?_,fun eb=> ?_⟩
 ·subst eb;refine S.b aY bD (Good.mono (fun p gp dj bH f br bQ cK ro=> ?_) aQ);obtain⟨⟨out,m₂⟩,bW⟩:=p;obtain⟨ro,dX⟩:=ro;obtain⟨e1,e2,gp⟩:=gp;cases e1
  cases e2
  have xa:=(aV.weaken (Y:=aF L.env) fun _ q=>q.elim).trans bQ;have cP:au cx L.k L.A dj bH bW br:=H.go xa;obtain⟨aD,z,st',fw,at'⟩:=gp bH fun k hk q=>by
   obtain⟨o,ho⟩:=cP.base.tK;have:=cP.rel.out k hk;rw[q,ho]at this;exact ns this
  obtain rfl:=ro;refine⟨rfl,at' _ _ br (w.choose hc hX xa (aO.trans cK) fw) ⟨H.fit,cP.base.mono fT,cP.rel.choose fw⟩ ?_⟩;rw[fw.len];exact dX.choose hm hf fw.vc fun j k e=>(fw.lt j k e).1
 ·subst eb;exact aQ.elim
noncomputable def jH(fd:FuncData):List Stmt:=match fd.body with
 |.stmts b=>b
 |.expr _=>[]
noncomputable def jS(i:Nat):Option Stmt:=di (jH nL) i
noncomputable def dN(nm:Str)(i:Nat):FuncData:=PM nm ("_law_kinds.<locals>."++nm) (jS i) .none .none .none
noncomputable def AN:FuncData:=match jS 9 with
 |some s=>match s with
  |.Assign _ v _=>match v with
   |.Lambda a b sc _=>{name:="<lambda>",qualname:="_law_kinds.<locals>.<lambda>",params:=a,body:=.expr b,scope:=sc,globals:=mainGlobals,closure:=[],defaults:=.none,kwdefaults:=.none,builtins:=builtinsNs}
   |_=>default
  |_=>default
 |none=>default
noncomputable def J3:V:=.jw (dN "leave_or_done" 0) []
noncomputable def DC(m:Nat):ai:=[("marks",.loc m),("leave_or_done",J3)]
noncomputable def zB(m:Nat):ai:=[("int",.jw (dN "made" 1) (DC m)),("ivar",.jw (dN "toss" 2) [("leave_or_done",J3)]),
 ("gvar",.jw (dN "guarded" 3) (DC m)),("sending",.jw (dN "sending" 4) (DC m)),("settle",.jw (dN "settle" 5) [("marks",.loc m)]),
 ("nil",.top 573),("array",.top 587),("values",.top 580),("seq",.top 594),("p_bind",.top 740),("p_value",.top 733),
 ("p_alt",.top 747),("casein",.top 803),("matchp",.top 824),("matchq",.top 831),("case",.jw AN [])]
structure Ws where
 aa:List V
 t:Int
 ln:Int
 md:ai
 out:Value
 main:Value
noncomputable def DE(way:V):AO:=.dict [("world",.loc 3),("table",.loc 7),("catches",.tup []),("stack",.loc 4),("way",way),("fiber",.none)]
noncomputable def AP(w:Ws):AO:=.dict [("natives",.fy []),("prelude",.fy []),("read",.none),("most",.int 20000),("taken",.num w.t),("last_number",.num w.ln),
 ("last_ident",.int 8),("symbol_idents",.fy []),("made",.loc 6),("version",.int 0),("const_version",.int 0),("globals",.fy []),("out",.aL w.out),("is_ready",.bool true),("main",.aL w.main)]
noncomputable def FF(vO:AO)(way:V)(w:Ws)(T:St):St:=DE way::.inst 562 0::AP w::.inst 1111 2::vO::.list [] w.aa::.dict w.md::.dict (zB 5)::T
noncomputable def bx(kind:Str)(node state Qe:V):AO:=.dict [("kind",.str kind),("node",node),("env",.none),("number",.none),("state",state),("held",Qe),("kept",.none)]
noncomputable def oY:FE:=⟨sQ.scope,[]⟩
noncomputable def uA:Expr:=match di (jH sQ) 0 with
 |some s=>match s with
  |.While t _ _ _=>t
  |_=>default
 |none=>default
noncomputable def x9:List Stmt:=match di (jH sQ) 0 with
 |some s=>match s with
  |.While _ b _ _=>b
  |_=>default
 |none=>default
noncomputable def cH:ai:=[("self",.loc 1)]
noncomputable def bT(p:Program)(w:World)(K:Frag)(n k:Nat)(st:St):aA cC:=((cX (az p w K n) 200).t (k+40) oY cH st uA).bind fun q=>match q.1 with
 |true=>(cX (az p w K n) 200).b (k+40) oY cH q.2 x9
 |false=>.bad
theorem av.re(l:av P fe m env I σ n h)(hm:pO c m=true)(hf:fe.free=[])
  (ls:∀k,k<c→af k=σ k)(hc:c≤n')(ap:∀b,aF env b→∀k,k<n'→af k≠b):av P fe m env I af n' h:=by
 have up:∀{v:V} {y:Value},kC c v=true→aq I P σ n v y→aq I P af n' v y:=fun e r=>oE (fun _ _ e=>e) ls hc r e;refine⟨l.scope,l.kind,l.glob,l.blt, ?_,fun x v e hk=> ?_,l.there,fun x v e=> ?_,fun b hb=>⟨(l.apart b hb).1,ap b hb⟩,l.ne,l.inj⟩
 ·obtain⟨mm,h1,h2⟩:=l.ns;refine⟨mm,h1,fun x v e hk=> ?_⟩;obtain⟨y,e1,r⟩:=h2 x v e hk;exact⟨y,e1,up (xZ hm e) r⟩
 ·obtain⟨d,y,h1,h2,r⟩:=l.cell x v e hk;exact⟨d,y,h1,h2,up (xZ hm e) r⟩
 ·rw[hf]at e;exact nn e
structure IsRun (L:Lp):Prop where
 m:L.m=cH
 fe:L.fe=oY
def AQ(cx:Cx)(L:Lp)(hg:Nat)(C:St)(w0:Ws)(aa5:V)(n:Nat)(W:V→Ws→Prop):Prop:=
 ∀(B:Bs) (pre:LV) (N:Nat),(∀b,aF L.env b→B.X b)→pre.length+hg≤1000→(∀bh w',W bh w'→At cx L 8 B (FF (.list pre []) bh w' []) N)→At cx L 8 B (FF (.list pre [.loc 9]) aa5 w0 C) (N+n)
structure WOk (way:V) (w:Ws):Prop where
 way:aJ way=true
 aa:bB w.aa=true
 md:dF w.md=true
noncomputable def kG(t c:Nat):List Nat:=0::1::2::3::4::5::6::7::(List.range c).map (· +(8+t))
theorem zC(t c:Nat):∀k,k<8→(kG t c)[k]? =some k:=fun k hk=>ML (P:=fun k=>(kG t c)[k]? =some k) hk rfl rfl rfl rfl rfl rfl rfl rfl
theorem pG(h:(kG t c)[j]? =some k):(j<8∧k=j)∨(8≤j∧k=j+t∧j<8+c):=by
 rcases qR j 8 with q|q
 ·rw[zC t c j q]at h;injection h with h;exact .inl ⟨q,h.symm⟩
 ·obtain⟨i,rfl⟩:=Nat.exists_eq_add_of_le q;rw[Nat.add_comm 8 i]at h;have h':((List.range c).map (· +(8+t)))[i]? =some k:=h;rw[List.getElem?_map]at h';induction e:(List.range c)[i]? using qe with
  |none=>rw[e]at h';exact nn h'
  |some x=>
   rw[e]at h';obtain⟨h1,h2⟩:=List.getElem?_eq_some_iff.mp e;rw[List.getElem_range]at h2;rw[List.length_range]at h1;injection h' with h';have h':x+(8+t)=k:=h';refine .inr ⟨q,by lia,by exact qu ‹_› _⟩
theorem zD(t c:Nat):(kG t c).length=8+c:=by simp[kG];try lia
theorem bU(vO:AO)(way:V)(w:Ws)(T:St):(FF vO way w T).length=8+T.length:=by simp[FF];lia
theorem kj(i:Nat):(FF vO way w T)[8+i]? =T[i]? :=by rw[Nat.add_comm];rfl
theorem WU(h:k<8):(FF vO way w T)[k]? =(FF vO way w T')[k]? :=by
 exact ML (P:=fun k=>(FF vO way w T)[k]? =(FF vO way w T')[k]?) h rfl rfl rfl rfl rfl rfl rfl rfl
theorem WV(h:k≠4):(FF vO way w T)[k]? =(FF WW way w T)[k]? :=by
 by_cases q:k<4
 ·exact R9 (P:=fun k=>(FF vO way w T)[k]? =(FF WW way w T)[k]?) q rfl rfl rfl rfl
 ·obtain⟨j,e⟩:=Nat.exists_eq_add_of_lt (Nat.lt_of_le_of_ne (qA q) h.symm);rw[e,show 4+j+1=j+5 by lia];rfl
theorem Su{P:AO→Prop}(i:Nat)(o:AO)(e:([]:St)[i]? =some o):P o:=nn e
theorem pH{P:AO→Prop}(h:P a)(t:∀(i:Nat) o,l[i]? =some o→P o)(i:Nat)(o:AO)(e:(a::l)[i]? =some o):P o:=by
 induction i using qk with
 |zero=>exact qc e▸h
 |succ i=>exact t i o e
theorem WX{P:AO→AO→Prop}(i:Nat)(o o':AO)(e:([]:St)[i]? =some o)(_:([]:St)[i]? =some o'):P o o':=nn e
theorem ve{P:AO→AO→Prop}(h:P a b)(t:∀(i:Nat) o o',l[i]? =some o→l'[i]? =some o'→P o o')(i:Nat)(o o':AO)(e:(a::l)[i]? =some o)(e':(b::l')[i]? =some o'):P o o':=by
 induction i using qk with
 |zero=>exact qc e▸qc e'▸h
 |succ i=>exact t i o o' e e'
section
variable{st:St}
theorem gS:bB vs=true→yR c aD z σ st m vs vs:=by
 induction vs with
 |nil=>exact fun _=>.nil
 |cons v vs ih=>exact fun h=>.cons (.closed (bk h).1) (ih (bk h).2)
theorem fh:dF vs=true→mF c aD z σ st m vs vs:=by
 induction vs with
 |nil=>exact fun _=>.nil
 |cons v vs ih=>exact fun h=>.cons (.closed (bk h).1) (ih (bk h).2)
theorem HY(h:Fw 8 aD z σ st false way bh):mG 8 aD z σ st (DE way) (DE bh):=
 .dict (.cons (.fix rfl) (.cons (.fix rfl) (.cons (.fix rfl) (.cons (.fix rfl) (.cons h (.cons (.fix rfl) .nil))))))
theorem FH:mG 8 aD z σ st (AP w) (AP w):=.fix rfl
theorem Nh:mG 8 aD z σ st (.dict (zB 5)) (.dict (zB 5)):=.fix rfl
end
theorem fJ.refl(c:Nat)(B:Bs)(n:Nat)(ho:∀k,c≤k→k<n→B.X (B.σ k)):fJ c B B.I B.σ n B.s:=
 ⟨fun _ _ e=>e,fun _ _=>rfl,fun _ _ e=>.inl e,fun k h1 h2=>.inl (ho k h1 h2),fun _ _ e _ _=>e,fun _ o e=>⟨o,e⟩,bw.refl _⟩
theorem nj(t c i:Nat)(h:i<c):(kG t c)[8+i]? =some (8+t+i):=by
 rw[Nat.add_comm 8 i];have:((List.range c).map (· +(8+t)))[i]? =some (8+t+i):=by
  rw[List.getElem?_map,List.getElem?_range h];exact congrArg some (Nat.add_comm i (8+t))
 exact this
theorem pI{P:AO→AO→Prop}(h:P a b)(o o':AO)(e:some a=some o)(e':some b=some o'):P o o':=qc e▸qc e'▸h
theorem Qf(ok:WOk way w)(hp:pre.length<100000)(hl:C.length=C2.length)
  (hC:∀(i:Nat) (o o':AO),C2[i]? =some o→C[i]? =some o'→mG 8 (kG T.length C.length) (fun _=>False) σ (FF (.list pre [.loc 9,.loc (8+T.length+1)]) way w (T++C2)) o o')
  (h1:2≤C.length):nR 8 (kG T.length C.length) (fun _=>False) σ (FF (.list pre [.loc 9,.loc (8+T.length+1)]) way w (T++C2)) (FF (.list (pre++[.ref (σ 9)]) [.loc 9]) way w C):=by
 refine⟨by rw[bU,zD],zC _ _,fun i j k e1 e2=> ?_,fun j k e=>⟨?_,fun q=>q⟩,fun j k o o' e e1 e2=> ?_⟩
 ·rcases pG e1 with⟨a,b⟩|⟨a,b,_⟩<;>rcases pG e2 with⟨a',b'⟩|⟨a',b',_⟩<;>lia
 ·rw[bU,List.length_append];rcases pG e with⟨a,b⟩|⟨a,b,d⟩<;>lia
 ·rcases pG e with⟨a,rfl⟩|⟨a,b,d⟩
  ·exact ML (P:=fun k=>∀o o',(FF (.list pre [.loc 9,.loc (8+T.length+1)]) way w (T++C2))[k]? =some o→(FF (.list (pre++[Value.ref (σ 9)]) [.loc 9]) way w C)[k]? =some o'→mG 8 (kG T.length C.length) (fun _=>False) σ (FF (.list pre [.loc 9,.loc (8+T.length+1)]) way w (T++C2)) o o') a
    (pI (HY (.closed ok.way))) (pI (.fix rfl)) (pI FH) (pI (.fix rfl)) (pI (.under hp (.cons (.loc (nj _ _ 1 (Nat.lt_of_succ_le h1))) .nil))) (pI (.list (gS ok.aa))) (pI (.dict (fh ok.md))) (pI Nh) o o' e1 e2
  ·obtain⟨i,rfl⟩:=Nat.exists_eq_add_of_le a;subst b;rw[kj]at e2;rw[show 8+i+T.length=8+(T.length+i)from by lia,kj,qx (by exact mh),Nat.add_sub_cancel_left]at e1;exact hC i o o' e1 e2
theorem B6(ir:IsRun L)(ev:AQ cx L hg C w way n W)(hX:∀b,aF L.env b→B.X b)(hp:pre.length+hg+1≤1000)(ok:WOk way w)
  (hT:∀(k:Nat) (o:AO),T[k]? =some o→nQ (8+T.length) o=true)(hT2:2≤T.length)(hl:C.length=C2.length)(h1:2≤C.length)
  (hC:∀(σ:Nat→Addr) (i:Nat) (o o':AO),C2[i]? =some o→C[i]? =some o'→mG 8 (kG T.length C.length) (fun _=>False) σ (FF (.list pre [.loc 9,.loc (8+T.length+1)]) way w (T++C2)) o o')
  (hk:∀bh w',W bh w'→At cx L 8 B (FF (.list pre [.loc 9]) bh w' T) N):At cx L 8 B (FF (.list pre [.loc 9,.loc (8+T.length+1)]) way w (T++C2)) (N+n):=by
 intro I σ s w0 H l;have hm:pO 8 L.m=true:=by rw[ir.m];rfl
 have L6:L.fe.free=[]:=by rw[ir.fe];rfl
 have fw:=Qf (σ:=σ) (pre:=pre) (way:=way) (w:=w) (T:=T) ok (by lia) hl (hC σ) h1;have hn:(FF (.list pre [.loc 9,.loc (8+T.length+1)]) way w (T++C2)).length=8+T.length+C.length:=by rw[bU,List.length_append,hl];exact(Nat.add_assoc _ _ _).symm
 have hnC:(FF (.list (pre++[.ref (σ 9)]) [.loc 9]) way w C).length=8+C.length:=bU ..;generalize yz:FF (.list pre [.loc 9,.loc (8+T.length+1)]) way w (T++C2)=st at*;have hr:=H.rel.choose fw;generalize hI:c9 I σ (fun _=>False) st.length s.heap=Ic at hr;have le:f7 I Ic:=by rw[←hI];exact fT
 have back:∀b o,Ic b=some o→I b=some o:=fun b o e=>by
  rw[←hI]at e;rcases gR e with q|⟨_,_,_,q,_⟩
  ·exact q
  ·exact q.elim
 generalize Ni:dY (kG T.length C.length) σ=HZ at hr;have c0:∀k,k<8→HZ k=σ k:=fun k hk=>by rw[←Ni];exact eF (zC _ _ k hk)
 have c1:∀j,8≤j→j<8+C.length→HZ j=σ (j+T.length):=fun j a b=>by
  rw[←Ni];have hj:j<(kG T.length C.length).length:=by rw[zD];exact b
  have ej:(kG T.length C.length)[j]? =some (kG T.length C.length)[j]:=qw hj;rcases pG ej with⟨x,_⟩|⟨_,y,_⟩
  ·exact absurd ‹_› (Nat.not_lt_of_le ‹_›)
  ·rw[eF ej,y]
 have dead:∀{b:Addr},s.heap.get? b=none→B.s.heap.get? b=none:=fun{b} e=>by
  induction q:B.s.heap.get? b using qe with
  |none=>rfl
  |some o=>obtain⟨o',e'⟩:=w0.alive b o q;rw[e]at e';exact nn e'
 let B':Bs:=⟨fun b=>(∃j,8≤j∧j<8+C.length∧HZ j=b)∨aF L.env b,Ic,HZ,s⟩
 have lc:av cx.P L.fe L.m L.env Ic HZ (8+C.length) s.heap:=by
  have:=l.choose (z:=fun _=>False) hm L6 fw.vc fun j k e=>(fw.lt j k e).1;rw[hI,Ni,zD]at this;exact this
 refine ev B' (pre++[.ref (σ 9)]) N (fun b hb=>.inr hb) (by rw[List.length_append];show pre.length+1+hg≤_;lia) (fun bh w' hW=> ?_) Ic HZ s (fJ.refl 8 B' _ fun k a b=>.inl ⟨k,a,by rw[hnC]at b;exact b,rfl⟩) ⟨H.fit,H.base.mono le,hr⟩ (by rw[hnC];exact lc);intro rF oz vY w4 WY Wi;have x0:∀k,k<8+T.length→¬B'.X (σ k):=fun k hk q=>by
  rcases q with⟨j,a,b,e⟩|q
  ·rw[c1 j a b]at e;have:=H.rel.inj _ _ (by rw[hn];lia) (by rw[hn];exact qy ‹_› (qr _ _)) e;lia
  ·exact(l.apart _ q).2 k (by rw[hn];lia) rfl
 have far:∀k,8≤k→k<st.length→∀j,j<8→B'.σ j≠σ k:=fun k a b j hj e=>by
  have e':σ j=σ k:=by rw[←c0 j hj];exact e
  have:=H.rel.inj _ _ (by rw[hn];lia) b e';lia
 refine hk bh w' hW rF σ vY ⟨fun b o e=>w4.i b o (le b o (w0.i b o e)),w0.sg,fun b o e=> ?_,fun k a b=> ?_,fun b o e h1 h2=> ?_,fun b o e=> ?_,w0.same.trans w4.same⟩ ⟨H.fit,WY.base,⟨WY.rel.sub,fun k o e=> ?_,fun i j hi hj=> ?_,fun k hk=> ?_⟩⟩ ?_
 ·rcases w4.fresh b o e with q|q|q
  ·exact w0.fresh b o (back b o q)
  ·exact .inr (.inl (dead q))
  ·rcases q with⟨j,a,b',e'⟩|q
   ·rw[c1 j a b']at e';rw[←e'];rcases w0.own (j+T.length) (by exact ntr ‹_›) (by rw[hn];lia)with q|q
    ·exact .inr (.inr q)
    ·exact .inr (.inl q)
   ·exact .inr (.inr (hX b q))
 ·rw[bU]at b;exact w0.own k a (by rw[hn];lia)
 ·refine w4.keep b o (w0.keep b o e h1 h2) (fun q=> ?_) fun k hk q=> ?_
  ·rcases q with⟨j,a,b',e'⟩|q
   ·rw[c1 j a b']at e';rcases w0.own (j+T.length) (by lia) (by rw[hn];lia)with q|q
    ·rw[e']at q;exact h1 q
    ·rw[e',e]at q;exact ns q
   ·exact h1 (hX b q)
  ·have q':σ k=b:=by rw[←c0 k hk];exact q
   rw[w0.sg k hk]at q';exact h2 k hk q'
 ·obtain⟨o',e'⟩:=w0.alive b o e;exact w4.alive b o' e'
 ·rw[bU];rcases qR k 8 with q|q
  ·have cell:∀o2,(FF (.list (pre++[.ref (σ 9)]) []) bh w' [])[k]? =some o2→∃ob,vY.heap.get? (σ k)=some ob∧dw rF cx.P oz 8 o2 ob:=fun o2 e2=>by
    obtain⟨ob,g,r⟩:=WY.rel.cells k o2 e2;rw[w4.sg k q,show B'.σ k=σ k from c0 k q]at g;exact⟨ob,g,r⟩
   have mono:∀{o2 ob},dw rF cx.P oz 8 o2 ob→dw rF cx.P σ (8+T.length) o2 ob:=fun r=>r.mono ⟨fun _ _ e=>e,fun j hj=>by rw[w4.sg j hj];exact(c0 j hj).symm,by exact mh⟩;by_cases q4:k=4
   ·subst q4;obtain rfl:=qc e;obtain⟨ob,g,r⟩:=cell _ rfl;refine⟨ob,g, ?_⟩;replace r:=r.inv;induction r using jZ.casesOn with
    |mk ep hp' r=>
     rw[show _=[]from r.inv]at*;rw[List.append_nil];exact .list ep (by lia) (.cons (.loc (σ:=σ) 9 (by lia)) .nil)
   ·rw[WU (T':=[]) q,WV (WW:=.list (pre++[.ref (σ 9)]) []) q4]at e;obtain⟨ob,g,r⟩:=cell o e;exact⟨ob,g,mono r⟩
  ·obtain⟨i,rfl⟩:=Nat.exists_eq_add_of_le q;rw[kj]at e;have hi:i<T.length:=(List.getElem?_eq_some_iff.mp e).1;have e0:st[8+i]? =some o:=by rw[←yz,kj,qz hi];exact e
   obtain⟨ob,g,r⟩:=H.rel.cells (8+i) o e0;exact⟨ob,w4.keep _ ob g (x0 _ (by exact qu ‹_› _)) (far _ q (by rw[hn];lia)),Fy (c:=8+T.length) (fun b o e=>w4.i b o (le b o e)) (fun _ _=>rfl) (qf _) r (hT i o e)⟩
 ·rw[bU]at hi hj;exact H.rel.inj i j (by rw[hn];lia) (by rw[hn];lia)
 ·rw[bU]at hk;induction q:rF (σ k)using qe with
  |none=>rfl
  |some o=>
   rcases w4.fresh _ _ q with q|q|q
   ·have:=back _ _ q;rw[H.rel.out k (by rw[hn];lia)]at this;exact nn this
   ·obtain⟨o',e'⟩:=H.rel.live (k:=k) (by rw[hn];lia);rw[show s.heap.get? (σ k)=none from q]at e';exact nn e'
   ·exact absurd q (x0 k hk)
 ·rw[bU];refine Wi.re hm L6 (fun j hj=> ?_) (by lia) fun b hb k hk=>(l.apart b hb).2 k (by rw[hn];lia);rw[w4.sg j hj];exact(c0 j hj).symm
structure bK (L:Lp) (k:Nat):Prop extends IsRun L where
 k:L.k=k+40
 test:L.test=uA
 body:L.body=x9
def fZ(cx:Cx)(L:Lp)(B:Bs)(N:Nat)(st:St):Prop:=∀σ,(∀k,k<st.length→σ k≠sysModules)→∃aD z st',nR 8 aD z σ st st'∧At cx L 8 B st' N
def ju(cx:Cx)(L:Lp)(B:Bs)(N:Nat)(q:cC):Prop:=q.1.1=.next∧q.1.2=cH∧fZ cx L B N q.2
theorem ck{wo:World}{K:Frag}{n k N:Nat}{L:Lp}{B:Bs}{st:St}(rl:bK L k)(hX:∀b,aF L.env b→B.X b)(hc:8≤st.length)
  (g:Gd (dS n) aI (bT p wo K n k st) (ju (az p wo K n) L B N)):At (az p wo K n) L 8 B st (N+1):=by
 refine Uz (eX (xY p wo K n) 200) hX (by rw[rl.m];rfl) (by rw[rl.fe];rfl) hc ?_;have e:DB (cX (az p wo K n) 200) L st=bT p wo K n k st:=by unfold DB bT;rw[rl.k,rl.m,rl.fe,rl.test,rl.body]<;>exact congrArg (aA.bind _) (funext fun q=>by obtain⟨b,st'⟩:=q;induction b using qd<;>rfl)
 rw[e,rl.m];exact g.out
section
variable{α:Type}
theorem cy(h:wI r=true)(n:ja r)(hb:xS r=decide ((20000:Int)<t+1))(ht:t<20000)(hk:Gd S pre (ah r false) Q):Gd S pre r Q:=by
 refine ur h n fun c hc=> ?_;rw[hb]at hc;rw[←hc,decide_eq_false (by lia)];exact hk
end
theorem kr{n N:Nat}{r:aA cC}{st:St}(h:iL r=true)(hn:ja r)(e1:yQ r=.next)(e2:sY r=cH)(e3:lS r=st)(q:fZ cx L B N st):Gd (dS n) aI r (ju cx L B N):=by
 refine wY h hn ?_;rw[e1,e2,e3];exact⟨rfl,rfl,q⟩
inductive An where
 |b (c:Bool)
 |v (v:V)
noncomputable def Zp(r:aA cC)(a:An):aA cC:=match a with
 |.b c=>ah r c
 |.v v=>bE r v
noncomputable def WZ(r:aA cC)(as:List An):List (Vw cC):=match as with
 |[]=>[vw r]
 |a::as=>vw r::WZ (Zp r a) as
abbrev cZ:Prop:=([V.loc 9]:List V).length+1≤500∧True
theorem bq:cZ:=⟨by decide,trivial⟩
def Go(n:Nat)(cx:Cx)(L:Lp)(B:Bs)(N:Nat)(ws:List (Vw cC))(as:List An):Prop:=∀r,WZ r as=ws→Gd (dS n) aI r (ju cx L B N)
section
theorem Go.fk(hp:p)(hb:b=c)(k:Go n cx L B N ws as):Go n cx L B N (.fork p b::ws) (.b c::as):=by
 intro r e;have e:=List.cons.inj e;obtain⟨_,s,d⟩:=Fb e.1;refine ur (congrArg BR s) (nd d hp) fun c' hc=> ?_;rw[←hc,show xS r=_ from congrArg E3 s,hb];exact k _ e.2
theorem Go.pk(hp:p)(j:Nat)(hi:i=Int.ofNat j)(hv:vs[j]? =some v)(hl:vs.length<500)(k:Go n cx L B N ws as):Go n cx L B N (.pick p vs i::ws) (.v v::as):=by
 intro r e;have e:=List.cons.inj e;obtain⟨_,s,d⟩:=Fc e.1;exact g9 _ _ j _ (congrArg E4 s) (nd d hp) hi hv hl (k _ e.2)
theorem Go.ok{st:St}(hp:p)(q:fZ cx L B N st):Go n cx L B N [.ok p ((.next,cH),st)] []:=fun _ e=>oU ⟨rfl,rfl,q⟩ hp (List.cons.inj e).1
end
theorem fR{K:Frag}{n k N:Nat}{L:Lp}{B:Bs}{lst:AO}{way:V}{w:Ws}{T:St}(as:List An)(ws:List (Vw cC))(rl:bK L k)(hX:∀b,aF L.env b→B.X b)(ht:w.t<20000)(g:Go n (az p wo K n) L B N ws as)
  (e:WZ (bT p wo K n k (FF lst way w T)) (.b false::as)=.fork cZ (decide ((20000:Int)<w.t+1))::ws):At (az p wo K n) L 8 B (FF lst way w T) (N+1):=
 ck rl hX (by rw[bU];exact qr _ _) (Go.fk bq (decide_eq_false (Int.not_lt.mpr ht)) g _ e)
noncomputable abbrev uB:=lZ 8
noncomputable def gC(ks:List Nat):List Nat:=0::1::2::3::4::5::6::7::ks
theorem w5(i:Nat):(gC ks)[8+i]? =ks[i]? :=by rw[Nat.add_comm];rfl
noncomputable abbrev tS(ks zs:List Nat):Bool:=WT 8 (gC ks) zs
theorem nS(ok:tS ks zs=true)
  (hw:Fw 8 (gC ks) (· ∈zs) σ (FF (.list pre vs) way w X) false way bh)(hv:yR 8 (gC ks) (· ∈zs) σ (FF (.list pre vs) way w X) false vs eg)(hm:bB w.aa=true)
  (hd:mF 8 (gC ks) (· ∈zs) σ (FF (.list pre vs) way w X) false w.md lU)(hT:uB (gC ks) (· ∈zs) σ (FF (.list pre vs) way w X) ks T):
  nR 8 (gC ks) (· ∈zs) σ (FF (.list pre vs) way w X) (FF (.list pre eg) bh {w with md:=lU} T):=
 wZ ok (.cons rfl (HY hw) (.cons rfl (.fix rfl) (.cons rfl FH (.cons rfl (.fix rfl) (.cons rfl (.list hv) (.cons rfl (.list (gS hm)) (.cons rfl (.dict hd) (.cons rfl Nh hT))))))))
noncomputable def aC(B7:Str)(v:V):V:=.inst 441 [("sort",.str B7),("value",v),("tag",.none)]
noncomputable def dZ(B7:Str)(v:V):AO:=.dict [("sort",.str B7),("value",v),("tag",.none)]
theorem eN{st:St}{j d:Nat}{B7:Str}{v v':V}(hj:z j)(hd:z d)(e:st[j]? =some (.inst 441 d))(e':st[d]? =some (dZ B7 v))(h:Fw c aD z σ st true v v'):
  Fw c aD z σ st false (.loc j) (aC B7 v'):=
 .inst hj hd e e' (.cons (.closed rfl) (.cons h (.cons (.closed rfl) .nil)))
section
variable{S:Spec}{α:Type}{Q:α→Prop}{r:aA α}
theorem r9(h:wI r=true)(n:ja r)(hb:xS r=b)(hk:Gd S pre (ah r b) Q):Gd S pre r Q:=ur h n fun c hc=>by rw[←hc,hb];exact hk
end
theorem DF{x:cS}(c:bB mk=true)(h:mk.length+x.marks.length≤400):ZL (x.all mk):=⟨fO c (gx _),by unfold cS.all;rw[List.length_append,List.length_map];exact h⟩
theorem ya{α:Type}{Q:α→Prop}{n:Nat}{r:aA α}(x:cS)(l:Nat){mk:List V}(hr:x.rk<n)(h:BP r=some (x.fn,x.args++[.loc l]))(hn:ja r)(D':Nat)(hd:BQ r=D')(Nj:x.dp≤D')(ok:x.ok)
  (e:listAt (lX r) l=some ([],mk))(z:ZL (x.all mk))(hk:Gd (dS n) aI (jQ r x.val (cF (lX r) l (.list [] (x.all mk)))) Q):Gd (dS n) aI r Q:=
 MI _ _ h hn (fun v st'=>v=x.val∧st'=cF (lX r) l (.list [] (x.all mk))) (.inl ⟨x,l,mk,hr,rfl,rfl,by rw[hd];exact Nj,ok,e,z,rfl,rfl⟩) fun v st' hS=>by rw[hS.1,hS.2];exact hk
theorem FI{α:Type}{Q:α→Prop}{n:Nat}{r:aA α}(x:Val)(hr:0<n)(ok:x.ok)(h:BP r=some (345,[x.v]))(hn:ja r)(D':Nat)(hd:BQ r=D')(Nj:8≤D')(st:St)(es:lX r=st)
  (hk:Gd (dS n) aI (jQ r (.str (eB x)) st) Q):Gd (dS n) aI r Q:=
 MI _ _ h hn (fun v st'=>v=.str (eB x)∧st'=lX r) (.inr ⟨hr,x,ok,rfl,rfl,by rw[hd];exact Nj,rfl,rfl⟩) fun v st' hS=>by rw[hS.1,hS.2,es];exact hk
noncomputable def vP(q:Nat→Addr):ai:=[("Object",.aL (.ref (q 0))),("BasicObject",.aL (.ref (q 1))),("Class",.aL (.ref (q 2))),("Module",.aL (.ref (q 3))),("Kernel",.aL (.ref (q 4)))]
noncomputable def H8(q:Nat→Addr):List (Str×V):=vP q++[(("Array":Str),.aL (.ref (q 5))),(("Enumerable":Str),.aL (.ref (q 6)))]
def pR(md:ai):Prop:=∃q,md=vP q∨md=H8 q
theorem pR.closed(h:pR md):dF md=true:=by
 obtain⟨q,rfl|rfl⟩:=h<;>rfl
structure aW (c m:Nat) (w:Ws):Prop where
 t:w.t+c≤20000
 aa:bB w.aa=true
 len:w.aa.length+m≤400
 md:pR w.md
noncomputable def B8(a1 a2 a3:Int)(o1:Value)(x:Nat→Value)(s:Str):V:=.inst 181 [("number",.int a3),("owner",.inst 228 [("number",.int a1),("owner",.aL o1),("fields",.aL (x 2)),("own",.none),("frozen",.bool false),("ident",.none),("name",.str "NoMatchingPatternError"),("is_class",.bool true),
 ("parent",.aL (x 8)),("outer",.none),("methods",.aL (x 3)),("constants",.aL (x 4)),("mixed",.aL (x 23)),("ahead",.aL (x 6)),("attached",.none),("native",.str "NoMatchingPatternError"),("kept",.none)]),("fields",.aL (x 45)),("own",.none),("frozen",.bool false),("ident",.none),
 ("message",.inst 62 [("number",.int a2),("owner",.aL (x 25)),("fields",.aL (x 42)),("own",.none),("frozen",.bool false),("ident",.none),("text",.str s)]),("cause",.none)]
def J4(s:Str)(e:V):Prop:=∃t a1 a2 a3 o1 x,s="NoMatchingPatternError "++t∧e=B8 a1 a2 a3 o1 x t
def Qg:Rz→V→Prop
 |.int i,v=>v=.int i
 |.str s,v=>J4 s v
def oZ:bu→V→Prop
 |.val x,v=>v=aC "value" x.v
 |.raise z,v=>∃e,aJ e=true∧Qg z e∧v=aC "raise" e
structure bO (r:Rd) (c:Nat) (w0:Ws) (u:V) (w:Ws):Prop where
 way:oZ r.2 u
 aa:w.aa=w0.aa++r.1.map Mark.v
 t:w.t≤w0.t+c
 md:pR w.md∨(dF w.md=true∧∃e,u=aC "raise" e)
noncomputable def iB(kind:Str)(node:V):St:=[bx kind node (.int 0) (.loc 10),.inst 463 8,.list [] []]
def iO(cx:Cx)(L:Lp)(hg n:Nat)(kind:Str)(node:V)(r:Rd):Prop:=∀w,aW n r.1.length w→AQ cx L hg (iB kind node) w .none n (bO r n w)
section
variable{K:Frag}
theorem dI(rl:bK L k)(hX:∀b,aF L.env b→B.X b)(hm:bB w.aa=true)(hd:dF w.md=true)
  (h:At (az p wo K n) L 8 B (FF (.list pre []) (aC "raise" v) w []) N):At (az p wo K n) L 8 B (FF (.list pre [.loc 9]) (aC "raise" v) w (bx kind node state Qe::.inst 463 8::X)) (N+1):=by
 refine ck rl hX (by rw[bU];exact mh) ?_;refine kr (st:=FF (.list pre []) (aC "raise" v) w (bx kind node state Qe::.inst 463 8::X)) ⋯ (nd (p:=cZ) ⋯ bq) ⋯ ⋯ ⋯ ?_;exact fun σ _=>⟨gC [],(· ∈[]),_,nS (lU:=w.md) (T:=[]) rfl (.closed rfl) .nil hm (fh hd) .nil,h⟩
theorem Nk(rl:bK L k):iO (az p wo K n) L 0 1 "nil" (aH.node .nil) (aH.rd .nil):=by
 intro w ok B pre N hX hp h;refine fR [] [.ok cZ ((.next,cH),FF (.list pre []) (.loc 12) {w with t:=w.t+1} (iB "nil" (aH.node .nil)++[dZ "value" .none,.inst 441 11]))] rl hX (by have:=ok.t;assumption) (.ok bq ?_) ⋯;refine fun σ _=>⟨gC [],(· ∈[12,11]),_,nS (w:={w with t:=w.t+1}) (lU:=w.md) (T:=[]) rfl (eN (j:=12) (d:=11) (v:=.none) (v':=.none) (by exact ms) (by exact kI) rfl rfl (.closed rfl)) .nil ok.aa (fh ok.md.closed) .nil,h _ _ ⟨rfl, ?_, ?_,.inl ok.md⟩⟩
 ·show w.aa=w.aa++[];exact(List.append_nil _).symm
 ·show w.t+1≤w.t+(1:Nat);simp
end
section
variable{K:Frag}
theorem fj(hz:tS [] zs=true)(hw:∀σ,(∀k,k<(FF (.list pre []) way w X).length→σ k≠sysModules)→Fw 8 (gC []) (· ∈zs) σ (FF (.list pre []) way w X) false way bh)(hm:bB w.aa=true)(hd:dF w.md=true)
  (h:At (az p wo K n) L 8 B (FF (.list pre []) bh w []) N):fZ (az p wo K n) L B N (FF (.list pre []) way w X):=
 fun σ hs=>⟨gC [],(· ∈zs),_,nS (lU:=w.md) (T:=[]) hz (hw σ hs) .nil hm (fh hd) .nil,h⟩
theorem Nl(rl:bK L k)(hn:0<n)(oki:(aH.int i).ok):iO (az p wo K n) L 0 1 "int" (aH.node (.int i)) (aH.rd (.int i)):=by
 intro w ok B pre N hX hp h;have ln:w.aa.length+1≤400:=ok.len;refine ck rl hX (by rw[bU];exact fG) ?_;refine cy (t:=w.t) ⋯ (nd (p:=cZ) ⋯ bq) ⋯ (by have:=ok.t;assumption) ?_;refine ya (.leaf (.int i)) 5 hn ⋯ (nd (p:=cZ) ⋯ bq) (k+38) ⋯ (qg 8 (k+30)) oki (mk:=w.aa) ⋯ (DF ok.aa ln) ?_;refine kr (st:=FF (.list pre []) (.loc 12) {w with t:=w.t+1,aa:=w.aa++[Mark.v (.made i)]} (iB "int" (aH.node (.int i))++[dZ "value" (.int i),.inst 441 11])) ⋯ (gW ⋯) ⋯ ⋯ ⋯ ?_;refine fj (bh:=aC "value" (.int i)) (zs:=[12,11]) rfl (fun σ _=>eN (j:=12) (d:=11) (v:=.int i) (by exact ms) (by exact kI) rfl rfl (.closed rfl)) (fO ok.aa (gx [.made i])) ok.md.closed (h _ _ ⟨rfl,rfl, ?_,.inl ok.md⟩);show w.t+1≤w.t+(1:Nat);simp
theorem H9(rl:bK L k):iO (az p wo K n) L 0 1 "ivar" (aH.node (.gX i)) (aH.rd (.gX i)):=by
 intro w ok B pre N hX hp h;refine fR [] [.ok cZ ((.next,cH),FF (.list pre []) (.loc 12) {w with t:=w.t+1} (iB "ivar" (aH.node (.gX i))++[dZ "raise" (.int i),.inst 441 11]))] rl hX (by have:=ok.t;lia) (.ok bq ?_) ⋯;refine fj (w:={w with t:=w.t+1}) (bh:=aC "raise" (.int i)) (zs:=[12,11]) rfl (fun σ _=>eN (j:=12) (d:=11) (v:=.int i) (by exact ms) (by exact kI) rfl rfl (.closed rfl)) ok.aa ok.md.closed (h _ _ ⟨⟨_,rfl,rfl,rfl⟩, ?_, ?_,.inl ok.md⟩)
 ·show w.aa=w.aa++[];exact(List.append_nil _).symm
 ·show w.t+1≤w.t+(1:Nat);simp
noncomputable def Ia(i:Int):Rd:=([.guard i],dM i)
theorem J5(i:Int)(s:Str):dM i≠.raise (.str s):=by
 unfold dM
 split<;>exact fun h=>by cases h
theorem Qh(rl:bK L k)(hn:0<n)(hi:0≤i∧i≤5):iO (az p wo K n) L 0 1 "gvar" (jd (some i)) (Ia i):=by
 intro w ok B pre N hX hp h;have ln:w.aa.length+1≤400:=ok.len;have cm:bB (cS.all (.guard i) w.aa)=true:=fO ok.aa (gx [.guard i]);have tt:w.t+1≤w.t+(1:Nat):=Int.le_refl _;refine ck rl hX (by rw[bU];exact fG) ?_;refine cy (t:=w.t) ⋯ (nd (p:=cZ) ⋯ bq) ⋯ (by have:=ok.t;lia) ?_;refine ya (.guard i) 5 hn ⋯ (nd (p:=cZ) ⋯ bq) (k+38) ⋯ (qg 8 (k+30)) hi (mk:=w.aa) ⋯ (DF ok.aa ln) ?_;rw[show cS.val (.guard i)=(dM i).v from rfl];have hw:(Ia i).2=dM i:=rfl;generalize dM i=a at hw⊢;induction a using bu.casesOn with
 |val y=>
  refine kr (st:=FF (.list pre []) (.loc 12) {w with t:=w.t+1,aa:=cS.all (.guard i) w.aa} (iB "gvar" (jd (some i))++[dZ "value" y.v,.inst 441 11])) ⋯ (gW ⋯) ⋯ ⋯ ⋯ ?_;exact fj (bh:=aC "value" y.v) (zs:=[12,11]) rfl (fun σ _=>eN (j:=12) (d:=11) (v:=y.v) (by exact ms) (by exact kI) rfl rfl (.closed (bN y))) cm ok.md.closed (h _ _ ⟨by rw[hw];rfl,rfl,tt,.inl ok.md⟩)
 |raise z=>
  induction z using Rz.casesOn with
  |int j=>
   refine kr (st:=FF (.list pre []) (.loc 12) {w with t:=w.t+1,aa:=cS.all (.guard i) w.aa} (iB "gvar" (jd (some i))++[dZ "raise" (.int j),.inst 441 11])) ⋯ (gW ⋯) ⋯ ⋯ ⋯ ?_;exact fj (bh:=aC "raise" (.int j)) (zs:=[12,11]) rfl (fun σ _=>eN (j:=12) (d:=11) (v:=.int j) (by exact ms) (by exact kI) rfl rfl (.closed rfl)) cm ok.md.closed (h _ _ ⟨by rw[hw];exact⟨_,rfl,rfl,rfl⟩,rfl,tt,.inl ok.md⟩)
  |str s=>exact absurd hw (J5 i s)
end
noncomputable def J6(t:Nat)(kind:Str)(node:V):St:=[bx kind node (.int 0) (.loc (8+t+2)),.inst 463 (8+t),.list [] []]
theorem FJ{st:St}{kind:Str}{node:V}(hn:aJ node=true)(i:Nat)(o o':AO)(e:(J6 t kind node)[i]? =some o)(e':(iB kind node)[i]? =some o'):mG 8 (kG t 3) z σ st o o':=by
 exact ve (P:=mG 8 (kG t 3) z σ st) (.dict (.cons (.closed ⋯) (.cons (.closed hn) (.cons (.closed rfl) (.cons (.closed rfl) (.cons (.closed rfl) (.cons (.loc (nj t 3 2 (by decide))) (.cons (.closed rfl) .nil))))))))
  (ve (.inst 463 (nj t 3 0 (by decide))) (ve (.fix rfl) WX)) i o o' e e'
section
variable{K:Frag}
theorem gA(rl:bK L k)(ev:iO (az p wo K n) L hg c kind node r)(hX:∀b,aF L.env b→B.X b)(hp:pre.length+hg+1≤1000)
  (ok:aW c r.1.length w)(hn:aJ node=true)(hz:tS ((8::9::tr)++[d,d+1,d+2]) zs=true)
  (hT:∀σ,(∀k,k<(FF (.list pre [.loc 9,.loc (d+1)]) .none w X).length→σ k≠sysModules)→uB (gC ((8::9::tr)++[d,d+1,d+2])) (· ∈zs) σ (FF (.list pre [.loc 9,.loc (d+1)]) .none w X) (8::9::tr) T)
  (e0:(FF (.list pre [.loc 9,.loc (d+1)]) .none w X)[d]? =some (bx kind node2 (.int 0) (.loc (d+2))))(e1:(FF (.list pre [.loc 9,.loc (d+1)]) .none w X)[d+1]? =some (.inst 463 d))(e2:(FF (.list pre [.loc 9,.loc (d+1)]) .none w X)[d+2]? =some (.list [] []))
  (J7:∀σ,(∀k,k<(FF (.list pre [.loc 9,.loc (d+1)]) .none w X).length→σ k≠sysModules)→Fw 8 (gC ((8::9::tr)++[d,d+1,d+2])) (· ∈zs) σ (FF (.list pre [.loc 9,.loc (d+1)]) .none w X) false node2 node)
  (FN:∀(k:Nat) (o:AO),T[k]? =some o→nQ (8+T.length) o=true)(CV:T.length=tr.length+2)
  (hk:∀bh w',bO r c w bh w'→At (az p wo K n) L 8 B (FF (.list pre [.loc 9]) bh w' T) N):fZ (az p wo K n) L B (N+c) (FF (.list pre [.loc 9,.loc (d+1)]) .none w X):=by
 intro σ hs;have hi:∀i,(gC ((8::9::tr)++[d,d+1,d+2]))[8+T.length+i]? =([d,d+1,d+2]:List Nat)[i]? :=fun i=>by
  rw[show 8+T.length+i=8+(T.length+i)from by exact Nat.add_assoc _ _ _,w5,qx (by simp;lia)]
  congr 1
  simp;lia
 refine⟨gC ((8::9::tr)++[d,d+1,d+2]),(· ∈zs),FF (.list pre [.loc 9,.loc (8+T.length+1)]) .none w (T++J6 T.length kind node), ?_, ?_⟩
 ·refine nS (lU:=w.md) hz (.closed rfl) (.cons (.loc rfl) (.cons (.loc (hi 1)) .nil)) ok.aa (fh ok.md.closed) (lZ.append (hT σ hs) (.cons e0 ?_ (.cons e1 (.inst 463 (hi 0)) (.cons e2 (.fix rfl) .nil))));exact .dict (.cons (.closed ⋯) (.cons (J7 σ hs) (.cons (.closed rfl) (.cons (.closed rfl) (.cons (.closed rfl) (.cons (.loc (hi 2)) (.cons (.closed rfl) .nil)))))))
 ·exact B6 rl.toIsRun (ev w ok) hX hp ⟨rfl,ok.aa,ok.md.closed⟩ FN (by lia) rfl (by show 2≤3;exact pS) (fun σ i o o' e e'=>FJ hn i o o' e e') hk
end
section
variable{K:Frag}
theorem bC{p:Prop}{r:aA cC}{st:St}(h:iL r=true∧eY r=p∧yQ r=.next∧sY r=cH∧lS r=st)(hp:p)(q:fZ cx L B N st):Gd (dS n) aI r (ju cx L B N):=
 kr h.1 (nd h.2.1 hp) h.2.2.1 h.2.2.2.1 h.2.2.2.2 q
theorem sZ(v:V):([v]:List V).length+1≤500:=qo rfl
theorem bO.cl{w0 w:Ws}{way:V}(e:bO r c w0 way w)(o:bB w0.aa=true):bB w.aa=true∧dF w.md=true:=by
 refine⟨by rw[e.aa];exact fO o (gx _), ?_⟩;rcases e.md with q|q
 ·exact q.closed
 ·exact q.1
theorem Ib(h:aC "value" a=aC "raise" b):False:=by
 injection h with _ h;injection h with h;injection h with _ h;injection h with h;exact absurd h (by decide)
theorem bO.sY(e:bO r c w0 (aC "value" v) w):pR w.md:=by
 rcases e.md with q|⟨_,e',q⟩
 ·exact q
 ·exact(Ib q).elim
theorem bO.ok(e:bO r c w0 (aC "value" v) w)(o:aW (c+c') (r.1.length+m) w0):aW c' m w:=by
 refine⟨?_, ?_, ?_,e.sY⟩
 ·have:=e.t;have:=o.t;lia
 ·rw[e.aa];exact fO o.aa (gx _)
 ·rw[e.aa];have:=o.len;simp;lia
theorem aW.le(o:aW c m w)(h:c'≤c)(h2:m'≤m):aW c' m' w:=⟨by have:=o.t;lia,o.aa,by have:=o.len;lia,o.md⟩
theorem aW.tick(o:aW (c+1) m w):aW c m {w with t:=w.t+1}:=⟨by have:=o.t;show w.t+1+_≤_;lia,o.aa,o.len,o.md⟩
noncomputable def Qi(node:V):St:=[bx "seq" node (.int 1) (.loc 10),.inst 463 8,.list [] []]
theorem AR(rl:bK L k)(hb:iO (az p wo K n) L hg c kb (aj kb pb) r):iO (az p wo K n) L (hg+1) (c+2) "seq" (kF (aj kb pb)) r:=by
 intro w ok B pre N hX hp h;refine At.le (N:=(N+1+c)+1) (by lia) ?_;refine fR [.b false,.v (aj kb pb)] [.fork (([V.loc 9]:List V).length+1≤500∧([aj kb pb]:List V).length+1≤500∧True) false,.pick True [aj kb pb] 0,.ok cZ ((.next,cH),FF (.list pre [.loc 9,.loc (11+1)]) .none {w with t:=w.t+1} (Qi (kF (aj kb pb))++[bx kb (aj kb pb) (.int 0) (.loc (11+2)),.inst 463 11,.list [] []]))] rl hX (by have:=ok.t;lia) (.fk ⟨by decide,sZ _,trivial⟩ rfl (.pk trivial 0 rfl rfl (by exact qo rfl) (.ok bq ?_))) ⋯;refine gA (w:={w with t:=w.t+1}) (T:=Qi (kF (aj kb pb))) (node2:=aj kb pb) (tr:=[10]) (zs:=[]) (d:=11) rl hb hX (by assumption) (ok.le (by exact pS) (qf _)).tick rfl rfl
  (fun σ _=>.cons rfl (.dict (.cons (.closed rfl) (.cons (.closed rfl) (.cons (.closed rfl) (.cons (.closed rfl) (.cons (.closed rfl) (.cons (.loc rfl) (.cons (.closed rfl) .nil)))))))) (.cons rfl (.inst 463 rfl) (.cons rfl (.fix rfl) .nil)))
  rfl rfl rfl (fun σ _=>.closed rfl) (fun i o e=> ?_) rfl (fun bh w' en=> ?_)
 ·match i with
  |0=>obtain rfl:=qc e;rfl
  |1=>obtain rfl:=qc e;rfl
  |2=>obtain rfl:=qc e;rfl
  |i+3=>exact nn e
 have cl:=en.cl ok.aa;obtain⟨m1,w1⟩:=r;have et:w'.t≤w.t+1+c:=en.t;induction w1 using bu.casesOn with
 |raise z=>
  obtain⟨e,ce,ze,rfl⟩:=en.way;exact dI (state:=.int 1) (X:=[.list [] []]) rl hX cl.1 cl.2 (h _ _ ⟨⟨e,ce,ze,rfl⟩,en.aa,by push_cast;lia,en.md⟩)
 |val x=>
  have hw:bh=aC "value" x.v:=en.way;subst hw;have fS:aW 1 0 w':=en.ok (c':=1) (m:=0) (aW.tick (ok.le (by exact iR) (by simp)));refine fR [.b true] [.fork (([V.loc 9]:List V).length+1≤500∧([aj kb pb]:List V).length+1≤500∧True) true,.ok True ((.next,cH),FF (.list pre []) (.loc 12) {w' with t:=w'.t+1} (Qi (kF (aj kb pb))++[dZ "value" x.v,.inst 441 11]))] rl hX (by have:=fS.t;assumption) (.fk ⟨by decide,sZ _,trivial⟩ rfl (.ok trivial ?_)) (by induction x using Val.casesOn<;>kernel_rfl)
  exact fj (w:={w' with t:=w'.t+1}) (bh:=aC "value" x.v) (zs:=[12,11]) rfl (fun σ _=>eN (j:=12) (d:=11) (v:=x.v) (by exact ms) (by exact kI) rfl rfl (.closed (bN x))) fS.aa fS.md.closed (h _ _ ⟨rfl,en.aa,by show w'.t+1≤_;push_cast;lia,.inl fS.md⟩)
end
section
variable{K:Frag}
noncomputable def vf(a b:Val):V:=.tup [a.v,.str "===",.lst [b.v],.none,.str "call"]
noncomputable def oO(a b:Val):Rd:=([.asked a b],cN a b)
theorem se(a b:Val):aJ (vf a b)=true:=by induction a using Val.casesOn<;>rfl
theorem J8(a b:Val)(s:Str):cN a b≠.raise (.str s):=by
 unfold cN
 split<;>exact fun h=>by cases h
theorem vg(rl:bK L k)(hn:0<n)(oka:a.ok)(eL:b.ok):iO (az p wo K n) L 0 1 "sending" (vf a b) (oO a b):=by
 intro w ok B pre N hX hp h;have ln:w.aa.length+1≤400:=ok.len;have cm:bB (cS.all (.asked a b) w.aa)=true:=fO ok.aa (gx [.asked a b]);have tt:w.t+1≤w.t+(1:Nat):=Int.le_refl _;refine ck rl hX (by rw[bU];exact fG) ?_;refine cy (t:=w.t) ⋯ (nd (p:=cZ) ⋯ bq) ⋯ (by have:=ok.t;assumption) ?_;refine g9 [b.v] 0 0 b.v ⋯ (nd (p:=cZ) ⋯ bq) rfl rfl (by exact qo rfl) ?_;refine ya (.asked a b) 5 hn ⋯ (gW ⋯) (k+38) ⋯ (qg 8 (k+30)) ⟨oka,eL⟩ (mk:=w.aa) ⋯ (DF ok.aa ln) ?_;rw[show cS.val (.asked a b)=(cN a b).v from rfl];have hw:(oO a b).2=cN a b:=rfl;generalize cN a b=y at hw⊢;induction y using bu.casesOn with
 |val y=>
  refine kr (st:=FF (.list pre []) (.loc 12) {w with t:=w.t+1,aa:=cS.all (.asked a b) w.aa} (iB "sending" (vf a b)++[dZ "value" y.v,.inst 441 11])) ⋯ (gW ⋯) ⋯ ⋯ ⋯ ?_;exact fj (bh:=aC "value" y.v) (zs:=[12,11]) rfl (fun σ _=>eN (j:=12) (d:=11) (v:=y.v) (by exact ms) (by exact kI) rfl rfl (.closed (bN y))) cm ok.md.closed (h _ _ ⟨by rw[hw];rfl,rfl,tt,.inl ok.md⟩)
 |raise z=>
  induction z using Rz.casesOn with
  |int j=>
   refine kr (st:=FF (.list pre []) (.loc 12) {w with t:=w.t+1,aa:=cS.all (.asked a b) w.aa} (iB "sending" (vf a b)++[dZ "raise" (.int j),.inst 441 11])) ⋯ (gW ⋯) ⋯ ⋯ ⋯ ?_;exact fj (bh:=aC "raise" (.int j)) (zs:=[12,11]) rfl (fun σ _=>eN (j:=12) (d:=11) (v:=.int j) (by exact ms) (by exact kI) rfl rfl (.closed rfl)) cm ok.md.closed (h _ _ ⟨by rw[hw];exact⟨_,rfl,rfl,rfl⟩,rfl,tt,.inl ok.md⟩)
  |str s=>exact absurd hw (J8 a b s)
theorem Nm(rl:bK L k):iO (az p wo K n) L 0 1 "settle" (.tup [aj "t_local" (.tup [.str nm]),x.v]) ([.bound nm x],.val x):=by
 intro w ok B pre N hX hp h;have ln:w.aa.length+1≤400:=ok.len;have cm:bB (w.aa++[Mark.v (.bound nm x)])=true:=fO ok.aa (gx [.bound nm x]);have tt:w.t+1≤w.t+(1:Nat):=Int.le_refl _;refine ck rl hX (by rw[bU];exact fG) ?_;refine cy (t:=w.t) ⋯ (nd (p:=([V.loc 9]:List V).length+1≤500∧True) ⋯ bq) ⋯ (by have:=ok.t;lia) ?_;refine bC (p:=([V.loc 9]:List V).length+1≤500∧w.aa.length<500∧True) (st:=FF (.list pre []) (.loc 12) {w with t:=w.t+1,aa:=w.aa++[Mark.v (.bound nm x)]} (iB "settle" (.tup [aj "t_local" (.tup [.str nm]),x.v])++[dZ "value" x.v,.inst 441 11])) (by induction x using Val.casesOn<;>exact⟨⋯,⋯,⋯,⋯,⋯⟩) ⟨bq.1,by exact vV ‹_›,trivial⟩ ?_
 exact fj (w:={w with t:=w.t+1,aa:=w.aa++[Mark.v (.bound nm x)]}) (bh:=aC "value" x.v) (zs:=[12,11]) rfl (fun σ _=>eN (j:=12) (d:=11) (v:=x.v) (by exact ms) (by exact kI) rfl rfl (.closed (bN x))) cm ok.md.closed (h _ _ ⟨rfl,rfl,tt,.inl ok.md⟩)
end
noncomputable def sq(ay:V)(a:Int)(l r:Nat):AO:=.dict [("subject",ay),("items",.loc l),("rows",.loc r),("at",.int a)]
noncomputable def mT(kind:Str)(node state:V)(ay:Val)(a:Int):St:=[bx kind node state (.loc 11),.inst 463 8,sq ay.v a 12 13,.inst 708 10,.list [] [],.dict []]
noncomputable abbrev Sv(kind:Str)(node:V)(ay:Val):St:=mT kind node (.int 0) ay 0
def w6(cx:Cx)(L:Lp)(hg n:Nat)(kind:Str)(node:V)(ay:Val)(r:Rd):Prop:=∀w,aW n r.1.length w→AQ cx L hg (Sv kind node ay) w .none n (bO r n w)
theorem AS(hs:kC 14 state=true)(i:Nat)(o:AO)(e:(mT kind (aj kd qW) state ay a)[i]? =some o):nQ (8+(mT kind (aj kd qW) state ay a).length) o=true:=by
 exact pH (P:=fun o=>nQ 14 o=true) (by show eV (kC 14 state) true=true;rw[hs];rfl) (pH rfl (pH (by cases ay<;>rfl) (pH rfl (pH rfl (pH rfl Su))))) i o e
theorem AU{aD:List Nat}{z:Nat→Prop}{σ:Nat→Addr}{st:St}(hn:aJ node=true)(hs:aJ state=true)(h8:aD[8]? =some 8)(n9:aD[10]? =some 10)(AV:aD[11]? =some 11)(vQ:aD[12]? =some 12)(yN:aD[13]? =some 13)
  (e:∀i o,(mT kind node state ay a)[i]? =some o→st[8+i]? =some o):uB aD z σ st [8,9,10,11,12,13] (mT kind node state ay a):=
 .cons (e 0 _ rfl) (.dict (.cons (.closed ⋯) (.cons (.closed hn) (.cons (.closed rfl) (.cons (.closed rfl) (.cons (.closed hs) (.cons (.loc AV) (.cons (.closed rfl) .nil))))))))
  (.cons (e 1 _ rfl) (.inst 463 h8) (.cons (e 2 _ rfl) (.dict (.cons (.closed (bN ay)) (.cons (.loc vQ) (.cons (.loc yN) (.cons (.closed rfl) .nil)))))
   (.cons (e 3 _ rfl) (.inst 708 n9) (.cons (e 4 _ rfl) (.fix rfl) (.cons (e 5 _ rfl) (.fix rfl) .nil)))))
section
variable{K:Frag}
noncomputable def s9(r:Rd)(ay:Val):Rd:=match r with
 |(mk,.raise z)=>(mk,.raise z)
 |(mk,.val x)=>match cN x ay with
  |.raise z=>(mk++[.asked x ay],.raise z)
  |.val y=>(mk++[.asked x ay],.val (.bool y.holds))
theorem Nn{kb:Str}{pb:V}(rl:bK L k)(hn:0<n)(jF:ay.ok)(iU:CR r.2)(hb:iO (az p wo K n) L 0 1 kb (aj kb pb) r):w6 (az p wo K n) L 1 5 "p_value" (aj "p_value" (.tup [aj kb pb])) ay (s9 r ay):=by
 intro w ok B pre N hX hp h;obtain⟨m1,w1⟩:=r;have l1:m1.length≤(s9 (m1,w1) ay).1.length:=by
  induction w1 using bu.casesOn with
  |raise z=>exact qf _
  |val x=>unfold s9;dsimp only;induction cN x ay using bu.casesOn<;>simp
 refine At.le (N:=(N+3+1)+1) (by exact iR) ?_;refine fR [] [.ok (([V.loc 9]:List V).length+1≤500∧cZ) ((.next,cH),FF (.list pre [.loc 9,.loc (14+1)]) .none {w with t:=w.t+1} (mT "p_value" (aj "p_value" (.tup [aj kb pb])) (.str "value") ay 0++[bx kb (aj kb pb) (.int 0) (.loc (14+2)),.inst 463 14,.list [] []]))] rl hX (by have:=ok.t;lia) (.ok ⟨bq.1,bq⟩ ?_) ⋯;refine gA (N:=N+3) (c:=1) (w:={w with t:=w.t+1}) (T:=mT "p_value" (aj "p_value" (.tup [aj kb pb])) (.str "value") ay 0) (node2:=aj kb pb) (tr:=[10,11,12,13]) (zs:=[]) (d:=14) rl hb hX (by assumption) (ok.le (c':=2) (by exact fG) l1).tick rfl rfl
  (fun σ _=>AU rfl rfl rfl rfl rfl rfl rfl fun i o e=>by
   rw[kj,qz (List.getElem?_eq_some_iff.mp e).1];exact e)
  rfl rfl rfl (fun σ _=>.closed rfl) (AS rfl) rfl (fun bh w' en=> ?_)
 have et:w'.t≤w.t+1+1:=en.t;have ot:=ok.t;induction w1 using bu.casesOn with
 |raise z=>
  have cl:=en.cl ok.aa;obtain⟨e,ce,ze,rfl⟩:=en.way;exact At.le (N:=N+1) (by lia) (dI rl hX cl.1 cl.2 (h _ _ ⟨⟨e,ce,ze,rfl⟩,en.aa,by push_cast;lia,en.md⟩))
 |val x=>
  have fC:x.ok:=iU;have hw:bh=aC "value" x.v:=en.way;subst hw;have fS:aW 3 1 w':=en.ok (c':=3) (m:=1) (aW.tick (ok.le (by exact iR) (by show m1.length+1≤_;unfold s9;dsimp only;induction cN x ay using bu.casesOn<;>simp)))
  refine At.le (N:=(N+1+1)+1) (by exact iR) ?_;refine fR [] [.ok (([V.loc 9]:List V).length+1≤500∧cZ) ((.next,cH),FF (.list pre [.loc 9,.loc (15+1)]) .none {w' with t:=w'.t+1} (mT "p_value" (aj "p_value" (.tup [aj kb pb])) (.str "asked") ay 0++[.list [] [ay.v],bx "sending" (.tup [x.v,.str "===",.loc 14,.none,.str "call"]) (.int 0) (.loc (15+2)),.inst 463 15,.list [] []]))] rl hX (by have:=fS.t;lia) (.ok ⟨bq.1,bq⟩ ?_) (by induction x using Val.casesOn<;>induction ay using Val.casesOn<;>kernel_rfl)
  refine gA (N:=N+1) (c:=1) (w:={w' with t:=w'.t+1}) (T:=mT "p_value" (aj "p_value" (.tup [aj kb pb])) (.str "asked") ay 0) (node:=vf x ay) (node2:=.tup [x.v,.str "===",.loc 14,.none,.str "call"]) (tr:=[10,11,12,13]) (zs:=[14]) (d:=15) rl (vg rl hn fC jF) hX (by lia) (aW.tick (fS.le (by exact pS) (qf _))) (se x ay) rfl
   (fun σ _=>AU rfl rfl rfl rfl rfl rfl rfl fun i o e=>by
    rw[kj,qz (List.getElem?_eq_some_iff.mp e).1];exact e)
   rfl rfl rfl (fun σ _=>.tup (.cons (.closed (bN x)) (.cons (.closed rfl) (.cons (.lst (by exact ms) rfl (.cons (.closed (bN ay)) .nil)) (.cons (.closed rfl) (.cons (.closed rfl) .nil)))))) (AS rfl) rfl (fun nT w2 cj=> ?_)
  have w7:=cj.cl fS.aa;have et2:w2.t≤w'.t+1+1:=cj.t;have em:w2.aa=w.aa++(m1++[Mark.asked x ay]).map Mark.v:=by rw[cj.aa];show w'.aa++_=_;rw[en.aa];simp[oO]
  have hy:∀y,cN x ay=y→oZ y nT:=fun y e=>by rw[←e];exact cj.way
  have hl:∀y,cN x ay=y→s9 (m1,.val x) ay=(m1++[Mark.asked x ay],match y with|.raise z=>.raise z|.val y=>.val (.bool y.holds)):=fun y e=>by unfold s9;dsimp only;rw[e];induction y using bu.casesOn<;>rfl
  induction e:cN x ay using bu.casesOn with
  |raise z=>
   obtain⟨e',ce,ze,rfl⟩:=hy _ e;exact dI rl hX w7.1 w7.2 (h _ _ ⟨by rw[hl _ e];exact⟨e',ce,ze,rfl⟩,by rw[hl _ e];exact em,by push_cast;lia,cj.md⟩)
  |val y=>
   have hw:nT=aC "value" y.v:=hy _ e;subst hw;have mu:aW 1 0 w2:=cj.ok (c':=1) (m:=0) (aW.tick (fS.le (by exact iR) (qf _)));refine ck rl hX (by rw[bU];exact fG) ?_;refine cy (t:=w2.t) ⋯ (nd (p:=cZ) ⋯ bq) ⋯ (by have:=mu.t;assumption) ?_;refine bC (p:=cZ) (st:=FF (.list pre []) (.loc 15) {w2 with t:=w2.t+1} (mT "p_value" (aj "p_value" (.tup [aj kb pb])) (.str "asked") ay 0++[dZ "value" (.bool y.holds),.inst 441 14])) (by
    induction y using Val.casesOn with
    |none=>exact⟨⋯,⋯,⋯,⋯,⋯⟩
    |int i=>exact⟨⋯,⋯,⋯,⋯,⋯⟩
    |bool b=>exact⟨⋯,⋯,⋯,⋯,⋯⟩) bq ?_
   exact fj (w:={w2 with t:=w2.t+1}) (bh:=aC "value" (.bool y.holds)) (zs:=[15,14]) rfl (fun σ _=>eN (j:=15) (d:=14) (v:=.bool y.holds) (by exact ms) (by exact kI) rfl rfl (.closed rfl)) mu.aa mu.md.closed (h _ _ ⟨by rw[hl _ e];rfl,by rw[hl _ e];exact em,by show w2.t+1≤_;push_cast;lia,.inl mu.md⟩)
end
noncomputable def mP(t:Nat)(kind:Str)(node:V)(ay:Val):St:=[bx kind node (.int 0) (.loc (8+t+3)),.inst 463 (8+t),sq ay.v 0 (8+t+4) (8+t+5),.inst 708 (8+t+2),.list [] [],.dict []]
theorem Zq{st:St}{kind:Str}{node:V}{ay:Val}(hn:aJ node=true)(i:Nat)(o o':AO)(e:(mP t kind node ay)[i]? =some o)(e':(Sv kind node ay)[i]? =some o'):mG 8 (kG t 6) z σ st o o':=by
 exact ve (P:=mG 8 (kG t 6) z σ st) (.dict (.cons (.closed ⋯) (.cons (.closed hn) (.cons (.closed rfl) (.cons (.closed rfl) (.cons (.closed rfl) (.cons (.loc (nj t 6 3 (by decide))) (.cons (.closed rfl) .nil))))))))
  (ve (.inst 463 (nj t 6 0 (by decide))) (ve (.dict (.cons (.closed (bN ay)) (.cons (.loc (nj t 6 4 (by decide))) (.cons (.loc (nj t 6 5 (by decide))) (.cons (.closed rfl) .nil)))))
  (ve (.inst 708 (nj t 6 2 (by decide))) (ve (.fix rfl) (ve (.fix rfl) WX))))) i o o' e e'
section
variable{K:Frag}
theorem sr(rl:bK L k)(ev:w6 (az p wo K n) L hg c kind node ay r)(hX:∀b,aF L.env b→B.X b)(hp:pre.length+hg+1≤1000)
  (ok:aW c r.1.length w)(hn:aJ node=true)(hz:tS ((8::9::tr)++[d,d+1,d+3,d+4,d+5,d+6]) zs=true)
  (hT:∀σ,(∀k,k<(FF (.list pre [.loc 9,.loc (d+1)]) .none w X).length→σ k≠sysModules)→uB (gC ((8::9::tr)++[d,d+1,d+3,d+4,d+5,d+6])) (· ∈zs) σ (FF (.list pre [.loc 9,.loc (d+1)]) .none w X) (8::9::tr) T)
  (e0:(FF (.list pre [.loc 9,.loc (d+1)]) .none w X)[d]? =some (bx kind node (.int 0) (.loc (d+4))))(e1:(FF (.list pre [.loc 9,.loc (d+1)]) .none w X)[d+1]? =some (.inst 463 d))
  (e2:(FF (.list pre [.loc 9,.loc (d+1)]) .none w X)[d+3]? =some (sq ay.v 0 (d+5) (d+6)))(e3:(FF (.list pre [.loc 9,.loc (d+1)]) .none w X)[d+4]? =some (.inst 708 (d+3)))
  (e4:(FF (.list pre [.loc 9,.loc (d+1)]) .none w X)[d+5]? =some (.list [] []))(e5:(FF (.list pre [.loc 9,.loc (d+1)]) .none w X)[d+6]? =some (.dict []))
  (FN:∀(k:Nat) (o:AO),T[k]? =some o→nQ (8+T.length) o=true)(CV:T.length=tr.length+2)
  (hk:∀bh w',bO r c w bh w'→At (az p wo K n) L 8 B (FF (.list pre [.loc 9]) bh w' T) N):fZ (az p wo K n) L B (N+c) (FF (.list pre [.loc 9,.loc (d+1)]) .none w X):=by
 intro σ hs;have hi:∀i,(gC ((8::9::tr)++[d,d+1,d+3,d+4,d+5,d+6]))[8+T.length+i]? =([d,d+1,d+3,d+4,d+5,d+6]:List Nat)[i]? :=fun i=>by
  rw[show 8+T.length+i=8+(T.length+i)from by exact Nat.add_assoc _ _ _,w5,qx (by simp;lia)]
  congr 1
  simp;lia
 refine⟨gC ((8::9::tr)++[d,d+1,d+3,d+4,d+5,d+6]),(· ∈zs),FF (.list pre [.loc 9,.loc (8+T.length+1)]) .none w (T++mP T.length kind node ay), ?_, ?_⟩
 ·refine nS (lU:=w.md) hz (.closed rfl) (.cons (.loc rfl) (.cons (.loc (hi 1)) .nil)) ok.aa (fh ok.md.closed) (lZ.append (hT σ hs) (.cons e0 ?_ (.cons e1 (.inst 463 (hi 0)) (.cons e2 ?_ (.cons e3 (.inst 708 (hi 2)) (.cons e4 (.fix rfl) (.cons e5 (.fix rfl) .nil)))))))
  ·exact .dict (.cons (.closed ⋯) (.cons (.closed hn) (.cons (.closed rfl) (.cons (.closed rfl) (.cons (.closed rfl) (.cons (.loc (hi 3)) (.cons (.closed rfl) .nil)))))))
  ·exact .dict (.cons (.closed (bN ay)) (.cons (.loc (hi 4)) (.cons (.loc (hi 5)) (.cons (.closed rfl) .nil))))
 ·exact B6 rl.toIsRun (ev w ok) hX hp ⟨rfl,ok.aa,ok.md.closed⟩ FN (by lia) rfl (by show 2≤6;exact fG) (fun σ i o o' e e'=>Zq hn i o o' e e') hk
theorem Qj(rl:bK L k):w6 (az p wo K n) L 1 3 "p_bind" (aj "p_bind" (.tup [.str nm])) ay ([.bound nm ay],.val (.bool true)):=by
 intro w ok B pre N hX hp h;have ot:=ok.t;refine At.le (N:=(N+1+1)+1) (by exact iR) ?_;refine fR [] [.ok (([V.loc 9]:List V).length+1≤500∧cZ) ((.next,cH),FF (.list pre [.loc 9,.loc (16+1)]) .none {w with t:=w.t+1} (mT "p_bind" (aj "p_bind" (.tup [.str nm])) (.str "bound") ay 0++[.dict [(("kind":Str),.str "t_local"),(("parts":Str),.tup [.str nm]),(("line":Str),.int 0),(("own":Str),.none)],.inst 687 14,bx "settle" (.tup [.loc 15,ay.v]) (.int 0) (.loc (16+2)),.inst 463 16,.list [] []]))] rl hX (by lia) (.ok ⟨bq.1,bq⟩ ?_) (by induction ay using Val.casesOn<;>kernel_rfl)
 refine gA (N:=N+1) (c:=1) (w:={w with t:=w.t+1}) (T:=mT "p_bind" (aj "p_bind" (.tup [.str nm])) (.str "bound") ay 0) (node:=.tup [aj "t_local" (.tup [.str nm]),ay.v]) (node2:=.tup [.loc 15,ay.v]) (tr:=[10,11,12,13]) (zs:=[14,15]) (d:=16) rl (Nm rl) hX (by assumption) (aW.tick (ok.le (by exact pS) (qf _))) (by induction ay using Val.casesOn<;>rfl) rfl
  (fun σ _=>AU rfl rfl rfl rfl rfl rfl rfl fun i o e=>by
   rw[kj,qz (List.getElem?_eq_some_iff.mp e).1];exact e)
  rfl rfl rfl (fun σ _=>.tup (.cons (.inst (k:=15) (d:=14) (by exact kI) (by exact ms) rfl rfl (fh rfl)) (.cons (.closed (bN ay)) .nil))) (AS rfl) rfl (fun bh w' en=> ?_)
 have et:w'.t≤w.t+1+1:=en.t;have hw:bh=aC "value" ay.v:=en.way;subst hw;have fS:aW 1 0 w':=en.ok (c':=1) (m:=0) (aW.tick (ok.le (by exact iR) (qf _)));refine fR [] [.ok cZ ((.next,cH),FF (.list pre []) (.loc 15) {w' with t:=w'.t+1} (mT "p_bind" (aj "p_bind" (.tup [.str nm])) (.str "bound") ay 0++[dZ "value" (.bool true),.inst 441 14]))] rl hX (by have:=fS.t;assumption) (.ok bq ?_) ⋯;exact fj (w:={w' with t:=w'.t+1}) (bh:=aC "value" (.bool true)) (zs:=[15,14]) rfl (fun σ _=>eN (j:=15) (d:=14) (v:=.bool true) (by exact ms) (by exact kI) rfl rfl (.closed rfl)) fS.aa fS.md.closed (h _ _ ⟨rfl,en.aa,by show w'.t+1≤_;push_cast;lia,.inl fS.md⟩)
end
noncomputable def dQ(r:List Mark×fc):Rd:=(r.1,match r.2 with|.raise z=>.raise z|.val b=>.val (.bool b))
theorem Qk(l:aH)(ay:Val):s9 l.rd ay=dQ (l.fits ay):=by
 unfold s9 dQ aH.fits;induction l.rd using qn with
 |mk m w=>induction w using bu.casesOn with
  |raise z=>rfl
  |val x=>dsimp only;induction cN x ay using bu.casesOn<;>rfl
noncomputable def J9(f:Bool):V:=match f with|true=>.int 0|false=>.str "matched"
noncomputable def Ql(f:Bool):V:=match f with|true=>.none|false=>aC "value" (.bool false)
noncomputable def tU(ls:List aH):V:=aj "p_alt" (.tup [.lst (ls.map lY)])
section
variable{K:Frag}
theorem B9(rl:bK L k)(hn:0<n)(l:aH)(ok:l.ok):∃kb pb,l.node=aj kb pb∧iO (az p wo K n) L 0 1 kb (aj kb pb) l.rd:=by
 induction l using aH.casesOn with
 |int i=>exact⟨"int",_,rfl,Nl rl hn ok⟩
 |nil=>exact⟨"nil",_,rfl,Nk rl⟩
 |gX i=>exact⟨"ivar",_,rfl,H9 rl⟩
theorem Np(rl:bK L k)(hn:0<n)(ok:l.ok)(jF:ay.ok):w6 (az p wo K n) L 1 5 "p_value" (lY l) ay (dQ (l.fits ay)):=by
 obtain⟨kb,pb,e,h⟩:=B9 (p:=p) (wo:=wo) (K:=K) rl hn l ok;rw[←Qk];unfold lY;rw[e];exact Nn rl hn jF (wX ok).w.w h
theorem FO(ok:aW (c+1) m w)(hl:ls.length≤3)(hb:decide ((a:Int)=Int.ofNat (ls.map lY).length)=b)
  (hk:Gd (dS n) aI (ah (ah (bT p wo K n k (FF (.list pre [.loc 9]) (Ql f) w (mT "p_alt" (tU ls) (J9 f) ay a))) false) b) Q):Gd (dS n) aI (bT p wo K n k (FF (.list pre [.loc 9]) (Ql f) w (mT "p_alt" (tU ls) (J9 f) ay a))) Q:=by
 refine cy (t:=w.t) (by induction f using qd<;>kernel_rfl) (nd (p:=cZ) (by induction f using qd<;>kernel_rfl) bq) (by induction f using qd<;>kernel_rfl) (by have:=ok.t;lia) ?_
 exact r9 (b:=b) (by induction f using qd<;>kernel_rfl) (nd (p:=([V.loc 9]:List V).length+1≤500∧(ls.map lY).length+1≤500∧True) (by induction f using qd<;>kernel_rfl) ⟨by decide,by simp;exact vV ‹_›,trivial⟩) (Eq.trans (b:=decide ((a:Int)=Int.ofNat (ls.map lY).length)) (by induction f using qd<;>kernel_rfl) hb) hk
theorem w9(l:aH)(b:List aH)(ay:Val):(l.fits ay).1.length≤(cV ay (l::b)).1.length:=by
 rw[cV.eq_2];induction l.fits ay using qn with
 |mk m g=>induction g using fc.casesOn with
  |raise z=>exact qf _
  |val bb=>induction bb using qd<;>simp
theorem UA(rl:bK L k)(hX:∀b,aF L.env b→B.X b)(en:bO (dQ (l.fits ay)) 5 w bh w')(ok:aW (6*b.length+6) (cV ay (l::b)).1.length w)
  (h:∀bh w',bO (dQ (cV ay (l::b))) (6*b.length+6) w bh w'→At (az p wo K n) L 8 B (FF (.list pre []) bh w' []) N)
  (H:aW (6*b.length+1) (cV ay b).1.length w'→(∀nT w2,bO (dQ (cV ay b)) (6*b.length+1) w' nT w2→At (az p wo K n) L 8 B (FF (.list pre []) nT w2 []) N)→
   At (az p wo K n) L 8 B (FF (.list pre [.loc 9]) (aC "value" (.bool false)) w' (mT "p_alt" (tU ls) (.str "matched") ay a)) (N+(6*b.length+1))):
  At (az p wo K n) L 8 B (FF (.list pre [.loc 9]) bh w' (mT "p_alt" (tU ls) (.str "matched") ay a)) (N+(6*b.length+1)):=by
 have et:w'.t≤w.t+5:=en.t;have jM:w'.aa=w.aa++(l.fits ay).1.map Mark.v:=en.aa;have hw:oZ (dQ (l.fits ay)).2 bh:=en.way;have cl:=en.cl ok.aa;induction hf:l.fits ay using qn with
 |mk m g=>
  rw[hf]at jM hw;induction g using fc.casesOn with
  |raise z=>
   have hA:cV ay (l::b)=(m,.raise z):=by rw[cV.eq_2,hf]
   rw[hA]at h;obtain⟨e,ce,ze,rfl⟩:=hw;exact At.le (N:=N+1) (by lia) (dI rl hX cl.1 cl.2 (h _ _ ⟨⟨e,ce,ze,rfl⟩,jM,by push_cast;lia,en.md⟩))
  |val bb=>
   induction bb using qd with
   |true=>
    have hA:cV ay (l::b)=(m,.val true):=by rw[cV.eq_2,hf]
    have hw:bh=aC "value" (.bool true):=hw;subst hw;have yG:aW 1 0 w':=en.ok (c':=1) (m:=0) (ok.le (by exact fG) (w9 l b ay));rw[hA]at h;refine At.le (N:=N+1) (by lia) (ck rl hX (by rw[bU];exact fG) ?_);refine cy (t:=w'.t) ⋯ (nd (p:=cZ) ⋯ bq) ⋯ (by have:=yG.t;assumption) ?_;refine kr (st:=FF (.list pre []) (.loc 15) {w' with t:=w'.t+1} (mT "p_alt" (tU ls) (.str "matched") ay a++[dZ "value" (.bool true),.inst 441 14])) ⋯ (nd (p:=cZ) ⋯ bq) ⋯ ⋯ ⋯ ?_;exact fj (w:={w' with t:=w'.t+1}) (bh:=aC "value" (.bool true)) (zs:=[15,14]) rfl (fun σ _=>eN (j:=15) (d:=14) (v:=.bool true) (by exact ms) (by exact kI) rfl rfl (.closed rfl)) yG.aa yG.md.closed (h _ _ ⟨rfl,jM,by show w'.t+1≤_;push_cast;lia,.inl yG.md⟩)
   |false=>
    have hA:cV ay (l::b)=(m++(cV ay b).1,(cV ay b).2):=by rw[cV.eq_2,hf]
    have hw:bh=aC "value" (.bool false):=hw;subst hw;rw[hA]at h ok;exact H (en.ok (c':=6*b.length+1) (m:=(cV ay b).1.length) (ok.le (by lia) (by show(l.fits ay).1.length+_≤_;rw[hf];simp))) fun nT w2 cj=>h _ _ ⟨cj.way,by rw[cj.aa,jM];simp[dQ],by have:=cj.t;push_cast at this⊢;lia,cj.md⟩
theorem UB(rl:bK L k)(hn:0<n)(jF:ay.ok)(hl:ls.length≤3)(hX:∀b,aF L.env b→B.X b)(hp:pre.length+2≤1000)(b:List aH):
  ∀(a:Nat) (f:Bool) (w:Ws),ls.drop a=b→a≤ls.length→(∀l∈b,l.ok)→aW (6*b.length+1) (cV ay b).1.length w→
   (∀bh w',bO (dQ (cV ay b)) (6*b.length+1) w bh w'→At (az p wo K n) L 8 B (FF (.list pre []) bh w' []) N)→
   At (az p wo K n) L 8 B (FF (.list pre [.loc 9]) (Ql f) w (mT "p_alt" (tU ls) (J9 f) ay a)) (N+(6*b.length+1)):=by
 induction b with
 |nil=>
  intro a f w hd ha eL ok h;have la:ls.length=a:=by
   have:=congrArg List.length hd;simp at this;lia
  refine ck rl hX (by rw[bU];exact fG) ?_;refine FO (c:=0) ok hl (b:=true) (decide_eq_true (by rw[List.length_map,la];rfl)) ?_;refine bC (p:=True) (st:=FF (.list pre []) (.loc 15) {w with t:=w.t+1} (mT "p_alt" (tU ls) (J9 f) ay a++[dZ "value" (.bool false),.inst 441 14])) (by induction f using qd<;>exact⟨⋯,⋯,⋯,⋯,⋯⟩) trivial ?_
  refine fj (w:={w with t:=w.t+1}) (bh:=aC "value" (.bool false)) (zs:=[15,14]) rfl (fun σ _=>eN (j:=15) (d:=14) (v:=.bool false) (by exact ms) (by exact kI) rfl rfl (.closed rfl)) ok.aa ok.md.closed (h _ _ ⟨rfl, ?_,by show w.t+1≤_;simp,.inl ok.md⟩);show w.aa=w.aa++[];exact(List.append_nil _).symm
 |cons l b ih=>
  intro a f w hd ha eL ok h;have la:a<ls.length:=by
   have:=congrArg List.length hd;simp at this;lia
  have Nq:ls[a]? =some l:=by
   have:=congrArg (·[0]?) hd
   simpa using this
  have W2:ls.drop (a+1)=b:=by rw[←List.drop_drop,hd];rfl
  have ot:=ok.t;simp only[List.length_cons]at ok h ot⊢;refine At.le (N:=(N+(6*b.length+1)+5)+1) (by exact iR) ?_;refine ck rl hX (by rw[bU];lia) ?_;refine FO (c:=6*b.length+6) (ok.le (by exact iR) (qf _)) hl (b:=false) (decide_eq_false (by rw[List.length_map];intro q;have q:(a:Int)=(ls.length:Int):=q;lia)) ?_;refine g9 (ls.map lY) ((a:Int)+1-1) a (lY l) (by induction f using qd<;>kernel_rfl) (gW (by induction f using qd<;>kernel_rfl)) (by show(a:Int)+1-1=(a:Int);simp) (by rw[List.getElem?_map,Nq];rfl) (by simp;lia) ?_
  refine bC (p:=cZ) (st:=FF (.list pre [.loc 9,.loc (14+1)]) .none {w with t:=w.t+1} (mT "p_alt" (tU ls) (.str "matched") ay (a+1:Nat)++[bx "p_value" (lY l) (.int 0) (.loc (14+4)),.inst 463 14,.list [] [],sq ay.v 0 (14+5) (14+6),.inst 708 (14+3),.list [] [],.dict []])) (by induction f using qd<;>induction ay using Val.casesOn<;>exact⟨⋯,⋯,⋯,⋯,⋯⟩) bq ?_
  refine sr (N:=N+(6*b.length+1)) (c:=5) (w:={w with t:=w.t+1}) (T:=mT "p_alt" (tU ls) (.str "matched") ay (a+1:Nat)) (tr:=[10,11,12,13]) (zs:=[]) (d:=14) rl (Np rl hn (eL l (qi)) jF) hX (by assumption) (aW.tick (ok.le (by exact fG) (w9 l b ay))) rfl rfl
   (fun σ _=>AU rfl rfl rfl rfl rfl rfl rfl fun i o e=>by
    rw[kj,qz (List.getElem?_eq_some_iff.mp e).1];exact e)
   rfl rfl rfl rfl rfl rfl (AS rfl) rfl (fun bh w' en=> ?_)
  exact UA rl hX en (aW.tick (ok.le (by lia) (qf _))) (fun nT w2 cj=>h _ _ ⟨cj.way,cj.aa,by have:=cj.t;push_cast at this⊢;lia,cj.md⟩) fun iU h=>ih (a+1) false w' W2 (by assumption) (fun x hx=>eL x (qj _ hx)) iU h
theorem UC(rl:bK L k)(hn:0<n)(jF:ay.ok)(lC:(cL.alt ls).ok):w6 (az p wo K n) L 2 19 "p_alt" (tU ls) ay (dQ (cV ay ls)):=by
 intro w ok B pre N hX hp h;have hl:ls.length≤3:=lC.1;exact At.le (N:=N+(6*ls.length+1)) (by lia) (UB rl hn jF hl hX (by assumption) ls 0 true w rfl (qm _) lC.2 (ok.le (by lia) (qf _)) fun bh w' en=>h bh w' ⟨en.way,en.aa,by have:=en.t;push_cast at this⊢;lia,en.md⟩)
end
noncomputable def tT(kind:Str)(node state:V):St:=[bx kind node state (.loc 10),.inst 463 8,.list [] []]
theorem uC(hs:kC 11 state=true)(i:Nat)(o:AO)(e:(tT kind (aj kd qW) state)[i]? =some o):nQ (8+(tT kind (aj kd qW) state).length) o=true:=by
 exact pH (P:=fun o=>nQ 11 o=true) (by show eV (kC 11 state) true=true;rw[hs];rfl) (pH rfl (pH rfl Su)) i o e
theorem uD{st:St}{kind:Str}{node state:V}(hn:aJ node=true)(hs:aJ state=true)(h8:aD[8]? =some 8)(n9:aD[10]? =some 10)
  (e:∀i o,(tT kind node state)[i]? =some o→st[8+i]? =some o):uB aD z σ st [8,9,10] (tT kind node state):=
 .cons (e 0 _ rfl) (.dict (.cons (.closed ⋯) (.cons (.closed hn) (.cons (.closed rfl) (.cons (.closed rfl) (.cons (.closed hs) (.cons (.loc n9) (.cons (.closed rfl) .nil))))))))
  (.cons (e 1 _ rfl) (.inst 463 h8) (.cons (e 2 _ rfl) (.fix rfl) .nil))
theorem bY(i:Nat)(o:AO)(e:T[i]? =some o):(FF vO way w (T++X))[8+i]? =some o:=by
 rw[kj,qz (List.getElem?_eq_some_iff.mp e).1];exact e
section
variable{K:Frag}
theorem FP(rl:bK L k)(hn:0<n)(q:cL)(ok:q.ok):∃kq pq,q.node=aj kq pq∧∀x:Val,x.ok→w6 (az p wo K n) L 2 19 kq (aj kq pq) x (dQ (q.fits x)):=by
 have le:∀{hg c:Nat} {kq:Str} {nq:V} {x:Val} {r:Rd},hg≤2→c≤19→w6 (az p wo K n) L hg c kq nq x r→w6 (az p wo K n) L 2 19 kq nq x r:=fun{hg c kq nq x r} h1 h2 ev w ok B pre N hX hp h=>
  At.le (N:=N+c) (by exact qu ‹_› _) (ev w (ok.le (by assumption) (qf _)) B pre N hX (by lia) fun u w' en=>h u w' ⟨en.way,en.aa,by have:=en.t;push_cast at this⊢;lia,en.md⟩)
 induction q using cL.casesOn with
 |bind m=>exact⟨"p_bind",_,rfl,fun x _=>le (by exact pS) (by exact fG) (Qj rl)⟩
 |lit l=>exact⟨"p_value",_,rfl,fun x hx=>le (by lia) (by exact fG) (Np rl hn ok hx)⟩
 |alt ls=>exact⟨"p_alt",_,rfl,fun x hx=>UC rl hn hx ok⟩
theorem Ka{pb pq:V}{r:Rd}{q:cL}(rl:bK L k)(h2:2≤hg)(iU:CR r.2)(hb:iO (az p wo K n) L hg c kb (aj kb pb) r)(hq:∀x:Val,x.ok→w6 (az p wo K n) L 2 19 kq (aj kq pq) x (dQ (q.fits x))):
  iO (az p wo K n) L (hg+1) (c+22) "matchp" (aj "matchp" (.tup [aj kb pb,aj kq pq])) (cY r (gK q)):=by
 intro w ok B pre N hX hp h;obtain⟨m1,w1⟩:=r;have ot:=ok.t;have hfx:∀x,gK q x=dQ (q.fits x):=fun x=>by
  unfold gK dQ;induction q.fits x using qn with
  |mk m f=>induction f using fc.casesOn<;>rfl
 have l1:m1.length≤(cY (m1,w1) (gK q)).1.length:=by
  induction w1 using bu.casesOn with
  |raise z=>exact qf _
  |val x=>simp[cY,Mine.Internal.after]
 refine At.le (N:=(N+21+c)+1) (by lia) ?_;refine fR [] [.ok (([V.loc 9]:List V).length+1≤500∧cZ) ((.next,cH),FF (.list pre [.loc 9,.loc (11+1)]) .none {w with t:=w.t+1} (tT "matchp" (aj "matchp" (.tup [aj kb pb,aj kq pq])) (.str "value")++[bx kb (aj kb pb) (.int 0) (.loc (11+2)),.inst 463 11,.list [] []]))] rl hX (by lia) (.ok ⟨bq.1,bq⟩ ?_) ⋯;refine gA (N:=N+21) (c:=c) (w:={w with t:=w.t+1}) (T:=tT "matchp" (aj "matchp" (.tup [aj kb pb,aj kq pq])) (.str "value")) (node2:=aj kb pb) (tr:=[10]) (zs:=[]) (d:=11) rl hb hX (by assumption) (aW.tick (ok.le (by lia) l1)) rfl rfl
  (fun σ _=>uD rfl rfl rfl rfl bY) rfl rfl rfl (fun σ _=>.closed rfl) (uC rfl) rfl (fun bh w' en=> ?_)
 have et:w'.t≤w.t+1+c:=en.t;induction w1 using bu.casesOn with
 |raise z=>
  have cl:=en.cl ok.aa;obtain⟨e,ce,ze,rfl⟩:=en.way;exact At.le (N:=N+1) (by lia) (dI rl hX cl.1 cl.2 (h _ _ ⟨⟨e,ce,ze,rfl⟩,en.aa,by push_cast;lia,en.md⟩))
 |val x=>
  have fC:x.ok:=iU;have hw:bh=aC "value" x.v:=en.way;subst hw;have W5:cY (m1,.val x) (gK q)=after m1 (dQ (q.fits x)):=by rw[←hfx];rfl
  rw[W5]at ok h;have fS:aW 21 (dQ (q.fits x)).1.length w':=en.ok (c':=21) (aW.tick (ok.le (by exact iR) (by simp[Mine.Internal.after])));refine At.le (N:=(N+1+19)+1) (by exact iR) ?_;refine fR [] [.ok (([V.loc 9]:List V).length+1≤500∧cZ) ((.next,cH),FF (.list pre [.loc 9,.loc (11+1)]) .none {w' with t:=w'.t+1} (tT "matchp" (aj "matchp" (.tup [aj kb pb,aj kq pq])) (.str "matched")++[bx kq (aj kq pq) (.int 0) (.loc (11+4)),.inst 463 11,.list [] [],sq x.v 0 (11+5) (11+6),.inst 708 (11+3),.list [] [],.dict []]))] rl hX (by have:=fS.t;omega) (.ok ⟨bq.1,bq⟩ ?_) (by induction x using Val.casesOn<;>kernel_rfl)
  refine sr (N:=N+1) (c:=19) (w:={w' with t:=w'.t+1}) (T:=tT "matchp" (aj "matchp" (.tup [aj kb pb,aj kq pq])) (.str "matched")) (tr:=[10]) (zs:=[]) (d:=11) rl (hq x fC) hX (by lia) (aW.tick (fS.le (by exact pS) (qf _))) rfl rfl
   (fun σ _=>uD rfl rfl rfl rfl bY) rfl rfl rfl rfl rfl rfl (uC rfl) rfl (fun nT w2 cj=> ?_)
  have et2:w2.t≤w'.t+1+19:=cj.t;have em:w2.aa=w.aa++(m1++(q.fits x).1).map Mark.v:=by rw[cj.aa];show w'.aa++_=_;rw[en.aa];simp[dQ]
  have w7:=cj.cl fS.aa;have pJ:oZ (dQ (q.fits x)).2 nT:=cj.way;induction hf:q.fits x using qn with
  |mk m2 f=>
   rw[hf]at pJ em h;induction f using fc.casesOn with
   |raise z=>
    obtain⟨e,ce,ze,rfl⟩:=pJ;exact dI rl hX w7.1 w7.2 (h _ _ ⟨⟨e,ce,ze,rfl⟩,em,by push_cast;lia,cj.md⟩)
   |val b=>
    have pJ:nT=aC "value" (.bool b):=pJ;subst pJ;have mu:aW 1 0 w2:=cj.ok (c':=1) (m:=0) (aW.tick (fS.le (by exact iR) (by simp)));refine fR [] [.ok cZ ((.next,cH),FF (.list pre []) (.loc 12) {w2 with t:=w2.t+1} (tT "matchp" (aj "matchp" (.tup [aj kb pb,aj kq pq])) (.str "matched")++[dZ "value" (.bool b),.inst 441 11]))] rl hX (by have:=mu.t;assumption) (.ok bq ?_) ⋯;exact fj (w:={w2 with t:=w2.t+1}) (bh:=aC "value" (.bool b)) (zs:=[12,11]) rfl (fun σ _=>eN (j:=12) (d:=11) (v:=.bool b) (by exact ms) (by exact kI) rfl rfl (.closed rfl)) mu.aa mu.md.closed (h _ _ ⟨rfl,em,by show w2.t+1≤_;push_cast;lia,.inl mu.md⟩)
end
noncomputable def Ca(ay:V)(oh iQ:Int)(l:Nat):AO:=.dict [("subject",ay),("arm",.int oh),("place",.int iQ),("values",.loc l)]
noncomputable def cT(kind:Str)(node state:V)(ay:Val)(oh iQ:Int)(vals:List V):St:=[bx kind node state (.loc 11),.inst 463 8,Ca ay.v oh iQ 12,.inst 764 10,.list [] vals]
section
variable{K:Frag}
theorem zE(rl:bK L k)(ev:AQ (az p wo K n) L hg (iB kind node) w .none c W)(hX:∀b,aF L.env b→B.X b)(hp:pre.length+hg+1≤1000)
  (mk:bB w.aa=true)(md:dF w.md=true)(hn:aJ node=true)(hz:tS ((8::9::tr)++[d,d+1,d+2]) zs=true)
  (hT:∀σ,(∀k,k<(FF (.list pre [.loc 9,.loc (d+1)]) .none w X).length→σ k≠sysModules)→uB (gC ((8::9::tr)++[d,d+1,d+2])) (· ∈zs) σ (FF (.list pre [.loc 9,.loc (d+1)]) .none w X) (8::9::tr) T)
  (e0:(FF (.list pre [.loc 9,.loc (d+1)]) .none w X)[d]? =some (bx kind node2 (.int 0) (.loc (d+2))))(e1:(FF (.list pre [.loc 9,.loc (d+1)]) .none w X)[d+1]? =some (.inst 463 d))(e2:(FF (.list pre [.loc 9,.loc (d+1)]) .none w X)[d+2]? =some (.list [] []))
  (J7:∀σ,(∀k,k<(FF (.list pre [.loc 9,.loc (d+1)]) .none w X).length→σ k≠sysModules)→Fw 8 (gC ((8::9::tr)++[d,d+1,d+2])) (· ∈zs) σ (FF (.list pre [.loc 9,.loc (d+1)]) .none w X) false node2 node)
  (FN:∀(k:Nat) (o:AO),T[k]? =some o→nQ (8+T.length) o=true)(CV:T.length=tr.length+2)
  (hk:∀bh w',W bh w'→At (az p wo K n) L 8 B (FF (.list pre [.loc 9]) bh w' T) N):fZ (az p wo K n) L B (N+c) (FF (.list pre [.loc 9,.loc (d+1)]) .none w X):=by
 intro σ hs;have hi:∀i,(gC ((8::9::tr)++[d,d+1,d+2]))[8+T.length+i]? =([d,d+1,d+2]:List Nat)[i]? :=fun i=>by
  rw[show 8+T.length+i=8+(T.length+i)from by exact Nat.add_assoc _ _ _,w5,qx (by simp;lia)]
  congr 1
  simp;lia
 refine⟨gC ((8::9::tr)++[d,d+1,d+2]),(· ∈zs),FF (.list pre [.loc 9,.loc (8+T.length+1)]) .none w (T++J6 T.length kind node), ?_, ?_⟩
 ·refine nS (lU:=w.md) hz (.closed rfl) (.cons (.loc rfl) (.cons (.loc (hi 1)) .nil)) mk (fh md) (lZ.append (hT σ hs) (.cons e0 ?_ (.cons e1 (.inst 463 (hi 0)) (.cons e2 (.fix rfl) .nil))));exact .dict (.cons (.closed ⋯) (.cons (J7 σ hs) (.cons (.closed rfl) (.cons (.closed rfl) (.cons (.closed rfl) (.cons (.loc (hi 2)) (.cons (.closed rfl) .nil)))))))
 ·exact B6 rl.toIsRun ev hX hp ⟨rfl,mk,md⟩ FN (by lia) rfl (by show 2≤3;exact pS) (fun σ i o o' e e'=>FJ hn i o o' e e') hk
def su:dK→V→Prop
 |.vals xs,v=>v=aC "value" (.lst (xs.map Val.v))
 |.raise z,v=>∃e,aJ e=true∧Qg z e∧v=aC "raise" e
structure iy (P:V→Prop) (ms:List Mark) (c:Nat) (w0:Ws) (u:V) (w:Ws):Prop where
 way:P u
 aa:w.aa=w0.aa++ms.map Mark.v
 t:w.t≤w0.t+c
 md:pR w.md∨(dF w.md=true∧∃e,u=aC "raise" e)
theorem iy.cl{P:V→Prop}{ms:List Mark}(e:iy P ms c w0 u w)(o:bB w0.aa=true):bB w.aa=true∧dF w.md=true:=by
 refine⟨by rw[e.aa];exact fO o (gx _), ?_⟩;rcases e.md with q|q
 ·exact q.closed
 ·exact q.1
theorem iy.sY{P:V→Prop}{ms:List Mark}(e:iy P ms c w0 (aC "value" v) w):pR w.md:=by
 rcases e.md with q|⟨_,e',q⟩
 ·exact q
 ·exact(Ib q).elim
theorem iy.ok{P:V→Prop}{ms:List Mark}(e:iy P ms c w0 (aC "value" v) w)(o:aW (c+c') (ms.length+m) w0):aW c' m w:=by
 refine⟨?_, ?_, ?_,e.sY⟩
 ·have:=e.t;have:=o.t;lia
 ·rw[e.aa];exact fO o.aa (gx _)
 ·rw[e.aa];have:=o.len;simp;lia
def CW(cx:Cx)(L:Lp)(hg n:Nat)(kind:Str)(node:V)(ms:List Mark)(P:V→Prop):Prop:=∀w,aW n ms.length w→AQ cx L hg (iB kind node) w .none n (iy P ms n w)
noncomputable def vT(node:V)(i:Nat)(xs:List Val):St:=[bx "values" node (.int i) (.loc 10),.inst 463 8,.list [] (xs.map Val.v)]
theorem FQ(xs:List Val):uN c (xs.map Val.v)=true:=by
 induction xs with
 |nil=>rfl
 |cons x xs ih=>exact dh (by cases x<;>rfl) ih
theorem AW(i:Nat)(o:AO)(e:(vT (.lst vs) a xs)[i]? =some o):nQ (8+(vT (.lst vs) a xs).length) o=true:=
 pH (P:=fun o=>nQ 11 o=true) rfl (pH rfl (pH (by exact FQ (c:=11) xs) Su)) i o e
theorem jm(xs:List Val):bB (xs.map Val.v)=true:=gr bN xs
theorem AX{st:St}{vs:List V}{a:Nat}{xs:List Val}(h8:aD[8]? =some 8)(n9:aD[10]? =some 10)
  (e:∀i o,(vT (.lst vs) a xs)[i]? =some o→st[8+i]? =some o):uB aD z σ st [8,9,10] (vT (.lst vs) a xs):=
 .cons (e 0 _ rfl) (.dict (.cons (.closed rfl) (.cons (.closed rfl) (.cons (.closed rfl) (.cons (.closed rfl) (.cons (.closed rfl) (.cons (.loc n9) (.cons (.closed rfl) .nil))))))))
  (.cons (e 1 _ rfl) (.inst 463 h8) (.cons (e 2 _ rfl) (.list (gS (jm xs))) .nil))
end
noncomputable def qZ(xs:List Val):dK→dK
 |.vals ys=>.vals (xs++ys)
 |.raise z=>.raise z
theorem Kc(xs ys:List Val)(r:dK):qZ xs (qZ ys r)=qZ (xs++ys) r:=by induction r using dK.casesOn<;>simp[qZ]
theorem Nr(r:dK):qZ [] r=r:=by induction r using dK.casesOn<;>rfl
theorem xd(h:l.rd=(m,.val x)):bZ (l::ls)=(m++(bZ ls).1,qZ [x] (bZ ls).2):=by
 rw[bZ,h];dsimp only;induction bZ ls using qn with
 |mk m' r=>induction r using dK.casesOn<;>rfl
theorem tV(h:l.rd=(m,.raise z)):bZ (l::ls)=(m,.raise z):=by
 rw[bZ,h]
noncomputable def aH.kd:aH→Str
 |.int _=>"int"
 |.nil=>"nil"
 |.gX _=>"ivar"
section
variable{K:Frag}
noncomputable def vW(node:V)(i:Nat)(vs:List V):St:=[bx "values" node (.int i) (.loc 10),.inst 463 8,.list [] vs]
theorem Sw:vW node i (xs.map Val.v++[x.v])=vT node i (xs++[x]):=by unfold vW vT;rw[List.map_append];rfl
theorem tw{α:Type}{f:α→V}{l:List α}(h:l.length≤3):(l.map f).length+1≤500:=by rw[List.length_map];lia
theorem CX(hm:bB w.aa=true)(hd:dF w.md=true)
  (h:At (az p wo K n) L 8 B (FF (.list pre []) (aC "value" (.lst (xs.map Val.v))) w []) N):fZ (az p wo K n) L B N (FF (.list pre []) (.loc 12) w (vT node i xs++[dZ "value" (.loc 10),.inst 441 11])):=
 fj (bh:=aC "value" (.lst (xs.map Val.v))) (zs:=[12,11,10]) rfl (fun σ _=>eN (j:=12) (d:=11) (v:=.loc 10) (by exact ms) (by exact kI) rfl rfl (.lst (by trivial) rfl (gS (jm xs)))) hm hd h
theorem vh(rl:bK L k)(hn:0<n)(l:aH)(ok:l.ok):iO (az p wo K n) L 0 1 l.kd l.node l.rd:=by
 induction l using aH.casesOn with
 |int i=>exact Nl rl hn ok
 |nil=>exact Nk rl
 |gX i=>exact H9 rl
theorem vj(l:aH)(ls:List aH):l.rd.1.length≤(bZ (l::ls)).1.length:=by
 induction h:l.rd using qn with
 |mk m w=>induction w using bu.casesOn with
  |raise z=>rw[tV h];exact qf _
  |val x=>rw[xd h];simp
theorem FT(rl:bK L k)(hX:∀b,aF L.env b→B.X b)(en:bO l.rd 1 w bh w')(ok:aW (2*b.length+2) (bZ (l::b)).1.length w)
  (h:∀u w',iy (su (qZ xs (bZ (l::b)).2)) (bZ (l::b)).1 (2*b.length+2) w u w'→At (az p wo K n) L 8 B (FF (.list pre []) u w' []) N)
  (H:∀y,aW (2*b.length+1) (bZ b).1.length w'→(∀u w2,iy (su (qZ (xs++[y]) (bZ b).2)) (bZ b).1 (2*b.length+1) w' u w2→At (az p wo K n) L 8 B (FF (.list pre []) u w2 []) N)→
   At (az p wo K n) L 8 B (FF (.list pre [.loc 9]) (aC "value" y.v) w' (vT node i xs)) (N+(2*b.length+1))):At (az p wo K n) L 8 B (FF (.list pre [.loc 9]) bh w' (vT node i xs)) (N+(2*b.length+1)):=by
 have cl:=en.cl ok.aa;have et:=en.t;have jM:=en.aa;have hw:=en.way;induction hr:l.rd using qn with
 |mk m wd=>
  rw[hr]at jM hw;induction wd using bu.casesOn with
  |raise z=>
   rw[tV (ls:=b) hr]at h;obtain⟨e,ce,ze,rfl⟩:=hw;exact At.le (N:=N+1) (by lia) (dI rl hX cl.1 cl.2 (h _ _ ⟨⟨e,ce,ze,rfl⟩,jM,by push_cast at et⊢;lia,.inr ⟨cl.2,_,rfl⟩⟩))
  |val y=>
   rw[xd (ls:=b) hr]at h ok;have hw:bh=aC "value" y.v:=hw;subst hw;refine H y (en.ok (c':=2*b.length+1) (m:=(bZ b).1.length) (ok.le (by lia) (by rw[hr];simp))) fun u w2 e2=>h _ _ ⟨?_, ?_, ?_,e2.md⟩
   ·have:=e2.way;rw[Kc];exact this
   ·rw[e2.aa,jM];simp
   ·have:=e2.t;push_cast at this et⊢;lia
theorem Nt{ls:List aH}(rl:bK L k)(hn:0<n)(hl:ls.length≤3)(hX:∀b,aF L.env b→B.X b)(hp:pre.length+1≤1000):
  ∀{i:Nat} {l:aH} {xs:List Val} {w:Ws},ls.drop i=l::b→l.ok→(∀l∈b,l.ok)→xs.length=i→aW (2*b.length+2) (bZ (l::b)).1.length w→
   (∀u w',iy (su (qZ xs (bZ (l::b)).2)) (bZ (l::b)).1 (2*b.length+2) w u w'→At (az p wo K n) L 8 B (FF (.list pre []) u w' []) N)→
   fZ (az p wo K n) L B (N+(2*b.length+1)+1) (FF (.list pre [.loc 9,.loc (11+1)]) .none w (vT (.lst (ls.map aH.node)) i xs++[bx l.kd l.node (.int 0) (.loc (11+2)),.inst 463 11,.list [] []])):=by
 induction b with
 |nil=>
  intro i l xs w hd lC eL hx ok h;have la:ls.length=i+1:=by
   have:=congrArg List.length hd;simp at this;lia
  have Nq:ls[i]? =some l:=by
   have:=congrArg (·[0]?) hd
   simpa using this
  refine gA (N:=N+1) (c:=1) (T:=vT (.lst (ls.map aH.node)) i xs) (node:=l.node) (node2:=l.node) (tr:=[10]) (zs:=[]) (d:=11) rl (vh rl hn l lC) hX (by assumption) (ok.le (by exact rB) (vj l [])) (dG l) rfl
   (fun σ _=>AX rfl rfl bY) rfl rfl rfl (fun σ _=>.closed (dG l)) AW rfl (fun bh w' en=> ?_)
  refine FT rl hX en ok h fun y iU h=> ?_;refine fR [.v l.node,.b true] [.pick cZ (ls.map aH.node) (i:Int),.fork ((xs.map Val.v).length+1≤500∧(ls.map aH.node).length+1≤500∧True) (decide ((i:Int)+1=Int.ofNat (ls.map aH.node).length)),.ok True ((.next,cH),FF (.list pre []) (.loc 12) {w' with t:=w'.t+1} (vW (.lst (ls.map aH.node)) (i+1) (xs.map Val.v++[y.v])++[dZ "value" (.loc 10),.inst 441 11]))] rl hX (by have:=iU.t;assumption) (.pk bq i rfl (by rw[List.getElem?_map,Nq];rfl) (by simp;lia) (.fk ⟨tw (f:=Val.v) (l:=xs) (by lia),tw hl,trivial⟩ (decide_eq_true (by rw[List.length_map,la];rfl)) (.ok trivial ?_))) (by induction y using Val.casesOn<;>induction l using aH.casesOn<;>kernel_rfl)
  rw[Sw];exact CX (w:={w' with t:=w'.t+1}) iU.aa iU.md.closed (h _ _ ⟨(by show _=_;simp),(List.append_nil _).symm,Int.le_refl _,.inl iU.md⟩)
 |cons l2 b ih=>
  intro i l xs w hd lC eL hx ok h;have la:i+1<ls.length:=by
   have:=congrArg List.length hd;simp at this;omega
  have Nq:ls[i]? =some l:=by
   have:=congrArg (·[0]?) hd
   simpa using this
  have W6:ls[i+1]? =some l2:=by
   have:=congrArg (·[1]?) hd
   simpa using this
  have W2:ls.drop (i+1)=l2::b:=by rw[←List.drop_drop,hd];rfl
  refine gA (N:=N+(2*(l2::b).length+1)) (c:=1) (T:=vT (.lst (ls.map aH.node)) i xs) (node:=l.node) (node2:=l.node) (tr:=[10]) (zs:=[]) (d:=11) rl (vh rl hn l lC) hX (by lia) (ok.le (by simp) (vj l _)) (dG l) rfl
   (fun σ _=>AX rfl rfl bY) rfl rfl rfl (fun σ _=>.closed (dG l)) AW rfl (fun bh w' en=> ?_)
  refine FT rl hX en ok h fun y iU h=> ?_;rw[List.length_cons]at iU h⊢;refine At.le (N:=(N+(2*b.length+1)+1)+1) (by exact iR) ?_;refine fR [.v l.node,.b false,.v l2.node] [.pick cZ (ls.map aH.node) (i:Int),.fork ((xs.map Val.v).length+1≤500∧(ls.map aH.node).length+1≤500∧True) (decide ((i:Int)+1=Int.ofNat (ls.map aH.node).length)),.pick True (ls.map aH.node) ((i:Int)+1),.ok cZ ((.next,cH),FF (.list pre [.loc 9,.loc (11+1)]) .none {w' with t:=w'.t+1} (vW (.lst (ls.map aH.node)) (i+1) (xs.map Val.v++[y.v])++[bx l2.kd l2.node (.int 0) (.loc (11+2)),.inst 463 11,.list [] []]))] rl hX (by have:=iU.t;lia) (.pk bq i rfl (by rw[List.getElem?_map,Nq];rfl) (by simp;lia) (.fk ⟨tw (f:=Val.v) (l:=xs) (by lia),tw hl,trivial⟩ (decide_eq_false (by rw[List.length_map];intro q;have q:(i:Int)+1=(ls.length:Int):=q;lia)) (.pk trivial (i+1) rfl (by rw[List.getElem?_map,W6];rfl) (by simp;lia) (.ok bq ?_)))) (by induction y using Val.casesOn<;>induction l using aH.casesOn<;>induction l2 using aH.casesOn<;>kernel_rfl)
  rw[Sw];exact ih W2 (eL l2 (qi)) (fun x hx=>eL x (qj _ hx)) (by simp;assumption) (aW.tick iU) fun u w2 cj=>h _ _ ⟨cj.way,cj.aa,by have:=cj.t;push_cast at this⊢;lia,cj.md⟩
theorem Ie(rl:bK L k)(hn:0<n)(hl:ls.length≤3)(lC:∀l∈ls,l.ok):CW (az p wo K n) L 1 7 "values" (.lst (ls.map aH.node)) (bZ ls).1 (su (bZ ls).2):=by
 intro w ok B pre N hX hp h;have ot:=ok.t;induction ls using qh with
 |nil=>
  refine At.le (N:=N+1) (by lia) ?_;refine fR [.b true] [.fork (([V.loc 9]:List V).length+1≤500∧([]:List V).length+1≤500∧True) true,.ok True ((.next,cH),FF (.list pre []) (.loc 12) {w with t:=w.t+1} (vT (.lst []) 0 []++[dZ "value" (.loc 10),.inst 441 11]))] rl hX (by lia) (.fk ⟨by decide,by decide,trivial⟩ rfl (.ok trivial ?_)) ⋯;refine CX (w:={w with t:=w.t+1}) ok.aa ok.md.closed (h _ _ ⟨rfl, ?_, ?_,.inl ok.md⟩)
  ·show w.aa=w.aa++[];exact(List.append_nil _).symm
  ·show w.t+1≤w.t+(7:Nat);push_cast;simp
 |cons l b=>
  have aa6:l.ok:=lC l (qi);have eL:∀l∈b,l.ok:=fun x hx=>lC x (qj _ hx);have lm:=vj l b;have hl':b.length+1≤3:=hl;refine At.le (N:=(N+(2*b.length+1)+1)+1) (by lia) ?_;refine fR [.b false,.v l.node] [.fork (([V.loc 9]:List V).length+1≤500∧((l::b).map aH.node).length+1≤500∧True) (decide ((0:Int)=Int.ofNat ((l::b).map aH.node).length)),.pick True ((l::b).map aH.node) 0,.ok cZ ((.next,cH),FF (.list pre [.loc 9,.loc (11+1)]) .none {w with t:=w.t+1} (vT (.lst ((l::b).map aH.node)) 0 []++[bx l.kd l.node (.int 0) (.loc (11+2)),.inst 463 11,.list [] []]))] rl hX (by lia) (.fk ⟨by decide,tw hl,trivial⟩ (decide_eq_false (by rw[List.length_map];intro q;have q:(0:Int)=((b.length+1:Nat):Int):=q;lia)) (.pk trivial 0 rfl rfl (by simp;lia) (.ok bq ?_))) (by induction l using aH.casesOn<;>kernel_rfl)
  exact Nt rl hn hl hX hp (i:=0) (xs:=[]) rfl aa6 eL rfl (aW.tick (ok.le (by simp;lia) (qf _))) fun u w2 en=>h _ _ ⟨Nr (bZ (l::b)).2▸en.way,en.aa,by have:=en.t;push_cast at this⊢;lia,en.md⟩
end
noncomputable def Qm(m:Int)(o:Value)(f:Value)(xs:List Val):V:=.inst 82 [("number",.int m),("owner",.aL o),("fields",.aL f),("own",.none),("frozen",.bool false),("ident",.none),("items",.lst (xs.map Val.v))]
def Qn:dK→V→Prop
 |.vals xs,v=>∃m o f,v=aC "value" (Qm m (.ref o) (.ref f) xs)
 |.raise z,v=>∃e,aJ e=true∧Qg z e∧v=aC "raise" e
theorem AY{σ:Nat→Addr}{st:St}{m:Bool}{b b2 a:ai}:∀{a2:ai},mF c aD z σ st m a a2→mF c aD z σ st m b b2→mF c aD z σ st m (a++b) (a2++b2):=by
 induction a with
 |nil=>intro a2 h h2;cases h;exact h2
 |cons x a ih=>intro a2 h h2;cases h with|cons h r=>exact .cons h (ih r h2)
section
variable{K:Frag}
theorem zF(hz:tS [] zs=true)(hm:bB w.aa=true)
  (hw:∀σ,(∀k,k<(FF (.list pre []) way w X).length→σ k≠sysModules)→∃bh lU,Fw 8 (gC []) (· ∈zs) σ (FF (.list pre []) way w X) false way bh∧mF 8 (gC []) (· ∈zs) σ (FF (.list pre []) way w X) false w.md lU∧At (az p wo K n) L 8 B (FF (.list pre []) bh {w with md:=lU} []) N):fZ (az p wo K n) L B N (FF (.list pre []) way w X):=by
 intro σ hs;obtain⟨bh,lU,h1,h2,h3⟩:=hw σ hs;exact⟨gC [],(· ∈zs),_,nS (lU:=lU) (T:=[]) hz h1 .nil hm h2 .nil,h3⟩
noncomputable abbrev W7(p:Program)(wo:World)(K:Frag)(n k:Nat)(w:Ws)(pre:LV)(ls:List aH)(xs:List Val):aA cC:=ah (bT p wo K n k (FF (.list pre [.loc 9]) (aC "value" (.lst (xs.map Val.v))) w (tT "array" (gQ ls) (.int 0)))) false
theorem UD(rl:bK L k)(hX:∀b,aF L.env b→B.X b)(hx:xs.length≤3)(ok:aW 1 0 w)
  (h:∀u w',iy (Qn (.vals xs)) [] 1 w u w'→At (az p wo K n) L 8 B (FF (.list pre []) u w' []) N):
  At (az p wo K n) L 8 B (FF (.list pre [.loc 9]) (aC "value" (.lst (xs.map Val.v))) w (tT "array" (gQ ls) (.int 0))) (N+1):=by
 obtain⟨aa,t,ln,md,out,main⟩:=w;have ot:t+1≤20000:=ok.t;obtain⟨q,em⟩:=ok.md;refine ck rl hX (by rw[bU];exact fG) ?_;rcases em with em|em
 ·have em:md=vP q:=em;subst em;refine cy (t:=t) ⋯ (nd (p:=cZ) ⋯ bq) ⋯ (by assumption) ?_;refine kr (st:=FF (.list pre []) (.loc 32) ⟨aa,t+1,ln+1+1+1,vP q++[(("Array":Str),.loc 12),(("Enumerable":Str),.loc 20)],out,main⟩ ((lS (W7 p wo K n k ⟨aa,t,ln,vP q,out,main⟩ pre ls xs)).drop 8)) ⋯
   (nd (p:=([V.loc 9]:List V).length+1≤500∧(Str.ofString "Enumerable"++Str.ofString ".").length≤sizeLine∧(Str.ofString "Enumerable"++Str.ofString ".").length≤sizeLine∧([]:List V).length+1≤500∧(Str.ofString "Array"++Str.ofString ".").length≤sizeLine∧(Str.ofString "Array"++Str.ofString ".").length≤sizeLine∧(xs.map Val.v).length+1≤500∧True) ⋯
    ⟨by decide,of_decide_eq_true ⋯,of_decide_eq_true ⋯,by decide,of_decide_eq_true ⋯,of_decide_eq_true ⋯,tw hx,trivial⟩) ⋯ ⋯ ⋯ ?_
  refine zF (zs:=[32,31,29,28,27]) rfl ok.aa fun σ _=>⟨aC "value" (Qm (ln+1) (.ref (σ 12)) (.ref (σ 30)) xs),vP q++[(("Array":Str),.aL (.ref (σ 12))),(("Enumerable":Str),.aL (.ref (σ 20)))], ?_, ?_, ?_⟩
  ·refine eN (j:=32) (d:=31) (v:=.loc 29) (by exact ms) (by exact kI) ⋯ ⋯ ?_;refine .inst (k:=29) (d:=28) (fs:=[(("number":Str),.num (ln+1)),(("owner":Str),.loc 12),(("fields":Str),.loc 30),(("own":Str),.none),(("frozen":Str),.bool false),(("ident":Str),.none),(("items":Str),.loc 27)]) (by trivial) (by trivial) ⋯ ⋯ ?_;exact .cons (.num _) (.cons (.aL 12) (.cons (.aL 30) (.cons (.closed rfl) (.cons (.closed rfl) (.cons (.closed rfl) (.cons (.lst (k:=27) (vs:=xs.map Val.v) (by trivial) ⋯ (gS (jm xs))) .nil))))))
  ·exact AY (fh rfl) (.cons (.aL 12) (.cons (.aL 20) .nil))
  ·refine h _ _ ⟨⟨_,_,_,rfl⟩, ?_, ?_,.inl ⟨fun j=>match j with|5=>σ 12|6=>σ 20|j=>q j,.inr rfl⟩⟩
   ·show aa=aa++[];exact(List.append_nil _).symm
   ·show t+1≤t+(1:Nat);simp
 ·have em:md=H8 q:=em;subst em;refine cy (t:=t) ⋯ (nd (p:=cZ) ⋯ bq) ⋯ (by lia) ?_;refine kr (st:=FF (.list pre []) (.loc 16) ⟨aa,t+1,ln+1,H8 q,out,main⟩ ((lS (W7 p wo K n k ⟨aa,t,ln,H8 q,out,main⟩ pre ls xs)).drop 8)) ⋯
   (nd (p:=([V.loc 9]:List V).length+1≤500∧(xs.map Val.v).length+1≤500∧True) ⋯
    ⟨by decide,tw hx,trivial⟩) ⋯ ⋯ ⋯ ?_
  refine zF (zs:=[16,15,13,12,11]) rfl ok.aa fun σ _=>⟨aC "value" (Qm (ln+1) (.ref (q 5)) (.ref (σ 14)) xs),H8 q, ?_, ?_, ?_⟩
  ·refine eN (j:=16) (d:=15) (v:=.loc 13) (by exact ms) (by exact kI) ⋯ ⋯ ?_;refine .inst (k:=13) (d:=12) (fs:=[(("number":Str),.num (ln+1)),(("owner":Str),.aL (.ref (q 5))),(("fields":Str),.loc 14),(("own":Str),.none),(("frozen":Str),.bool false),(("ident":Str),.none),(("items":Str),.loc 11)]) (by trivial) (by trivial) ⋯ ⋯ ?_;exact .cons (.num _) (.cons (.closed rfl) (.cons (.aL 14) (.cons (.closed rfl) (.cons (.closed rfl) (.cons (.closed rfl) (.cons (.lst (k:=11) (vs:=xs.map Val.v) (by trivial) ⋯ (gS (jm xs))) .nil))))))
  ·exact fh rfl
  ·refine h _ _ ⟨⟨_,_,_,rfl⟩, ?_, ?_,.inl ⟨q,.inr rfl⟩⟩
   ·show aa=aa++[];exact(List.append_nil _).symm
   ·show t+1≤t+(1:Nat);simp
end
theorem iy.mu{P:V→Prop}{ms:List Mark}(e:iy P ms c w0 (aC "value" v) w)(o:aW (c+c') (ms.length+m) w0):aW c' m w:=e.ok o
theorem AZ{ls:List aH}{xs:List Val}(h:(bZ (l::ls)).2=.vals xs):∃m x ys,l.rd=(m,.val x)∧(bZ ls).2=.vals ys∧xs=x::ys:=by
 rcases hr:l.rd with⟨m,x|z⟩
 ·rw[xd hr]at h;rcases hq:(bZ ls).2 with ys|z
  ·rw[hq]at h;injection h with h;exact⟨m,x,ys,rfl,rfl,h.symm⟩
  ·rw[hq]at h;injection h
 ·rw[tV hr]at h;injection h
theorem CY(ls:List aH):∀xs:List Val,(bZ ls).2=.vals xs→xs.length=ls.length:=by
 induction ls with
 |nil=>intro xs h;injection h with h;rw[←h];rfl
 |cons l ls ih=>
  intro xs h;obtain⟨m,x,ys,_,hq,e⟩:=AZ h;rw[e];exact congrArg Nat.succ (ih ys hq)
section
variable{K:Frag}
theorem Qo{ls:List aH}(rl:bK L k)(hn:0<n)(hl:ls.length≤3)(lC:∀l∈ls,l.ok):CW (az p wo K n) L 2 9 "array" (gQ ls) (bZ ls).1 (Qn (bZ ls).2):=by
 intro w ok B pre N hX hp h;have ot:=ok.t;refine At.le (N:=(N+1+7)+1) (by exact iR) ?_;refine fR [] [.ok (([V.loc 9]:List V).length+1≤500∧cZ) ((.next,cH),FF (.list pre [.loc 9,.loc (11+1)]) .none {w with t:=w.t+1} (tT "array" (gQ ls) (.int 0)++[bx "values" (.lst (ls.map aH.node)) (.int 0) (.loc (11+2)),.inst 463 11,.list [] []]))] rl hX (by lia) (.ok ⟨bq.1,bq⟩ ?_) ⋯;refine zE (N:=N+1) (c:=7) (w:={w with t:=w.t+1}) (T:=tT "array" (gQ ls) (.int 0)) (node:=.lst (ls.map aH.node)) (node2:=.lst (ls.map aH.node)) (tr:=[10]) (zs:=[]) (d:=11) rl (Ie rl hn hl lC _ (aW.tick (ok.le (by exact pS) (qf _)))) hX (by assumption) ok.aa ok.md.closed rfl rfl
  (fun σ _=>uD rfl rfl rfl rfl bY) rfl rfl rfl (fun σ _=>.closed rfl) (uC rfl) rfl (fun bh w' en=> ?_)
 have et:w'.t≤w.t+1+7:=en.t;have cl:=en.cl ok.aa;have jM:w'.aa=w.aa++(bZ ls).1.map Mark.v:=en.aa;have hw:su (bZ ls).2 bh:=en.way;have W8:=CY ls;induction hr:(bZ ls).2 using dK.casesOn with
 |raise z=>
  rw[hr]at hw h;obtain⟨e,ce,ze,rfl⟩:=hw;exact dI rl hX cl.1 cl.2 (h _ _ ⟨⟨e,ce,ze,rfl⟩,jM,by push_cast;lia,.inr ⟨cl.2,_,rfl⟩⟩)
 |vals xs=>
  rw[hr]at hw h;have hw:bh=aC "value" (.lst (xs.map Val.v)):=hw;subst hw;have fS:aW 1 0 w':=en.mu (c':=1) (m:=0) (aW.tick (ok.le (by exact iR) (by simp)));have lx:=W8 xs hr;refine UD rl hX (by lia) fS fun u w2 cj=>h _ _ ⟨cj.way, ?_, ?_,cj.md⟩
  ·rw[cj.aa,jM];exact List.append_nil _
  ·have:=cj.t;push_cast at this⊢;lia
end
theorem CW.le{kind:Str}{node:V}{ms:List Mark}{P P':V→Prop}(h1:hg≤W9)(h2:n≤n')(hP:∀v,P v→P' v)(ev:CW cx L hg n kind node ms P):CW cx L W9 n' kind node ms P':=fun w ok B pre N hX hp h=>
 At.le (N:=N+n) (by exact qu ‹_› _) (ev w (ok.le (by assumption) (qf _)) B pre N hX (by lia) fun u w' en=>h u w' ⟨hP _ en.way,en.aa,by have:=en.t;lia,en.md⟩)
section
variable{K:Frag}
noncomputable abbrev gY(nd:V):V:=aj "splat" (.tup [nd])
theorem FU{nd:V}{xs:List Val}{o:AO}(hm:bB w.aa=true)(hd:dF w.md=true)
  (h:At (az p wo K n) L 8 B (FF (.list pre []) (aC "value" (.lst (xs.map Val.v))) w []) N):fZ (az p wo K n) L B N (FF (.list pre []) (.loc 13) w (vW (.lst [gY nd]) 1 (xs.map Val.v)++[o,dZ "value" (.loc 10),.inst 441 12])):=
 fj (bh:=aC "value" (.lst (xs.map Val.v))) (zs:=[13,12,10]) rfl (fun σ _=>eN (j:=13) (d:=12) (v:=.loc 10) (by exact ms) (by exact kI) rfl rfl (.lst (by trivial) rfl (gS (jm xs)))) hm hd h
theorem Qp(rl:bK L k)(hn:0<n)(lC:l.ok):CW (az p wo K n) L 1 3 "values" (.lst [gY l.node]) (aB.jb l).rd.1 (su (aB.jb l).rd.2):=by
 intro w ok B pre N hX hp h;have ot:=ok.t;have lm:l.rd.1.length≤(aB.jb l).rd.1.length:=by
  induction hr:l.rd using qn with
  |mk m w=>induction w using bu.casesOn<;>simp[aB.rd,hr]
 refine At.le (N:=(N+1+1)+1) (by exact iR) ?_;refine fR [.b false,.v (gY l.node)] [.fork (([V.loc 9]:List V).length+1≤500∧([gY l.node]:List V).length+1≤500∧True) false,.pick True [gY l.node] 0,.ok cZ ((.next,cH),FF (.list pre [.loc 9,.loc (11+1)]) .none {w with t:=w.t+1} (vT (.lst [gY l.node]) 0 []++[bx l.kd l.node (.int 0) (.loc (11+2)),.inst 463 11,.list [] []]))] rl hX (by lia) (.fk ⟨by decide,sZ _,trivial⟩ rfl (.pk trivial 0 rfl rfl (by exact qo rfl) (.ok bq ?_))) (by induction l using aH.casesOn<;>kernel_rfl)
 refine gA (N:=N+1) (c:=1) (w:={w with t:=w.t+1}) (T:=vT (.lst [gY l.node]) 0 []) (node:=l.node) (node2:=l.node) (tr:=[10]) (zs:=[]) (d:=11) rl (vh rl hn l lC) hX (by assumption) (aW.tick (ok.le (by exact pS) lm)) (dG l) rfl
  (fun σ _=>AX rfl rfl bY) rfl rfl rfl (fun σ _=>.closed (dG l)) AW rfl (fun bh w' en=> ?_)
 have et:w'.t≤w.t+1+1:=en.t;have cl:=en.cl ok.aa;have jM:w'.aa=w.aa++l.rd.1.map Mark.v:=en.aa;have hw:oZ l.rd.2 bh:=en.way;induction hr:l.rd using qn with
 |mk m wd=>
  rw[hr]at jM hw;induction wd using bu.casesOn with
  |raise z=>
   have hA:(aB.jb l).rd=(m,.raise z):=by simp[aB.rd,hr]
   rw[hA]at h;obtain⟨e,ce,ze,rfl⟩:=hw;exact(dI rl hX cl.1 cl.2 (h _ _ ⟨⟨e,ce,ze,rfl⟩,jM,by push_cast;lia,.inr ⟨cl.2,_,rfl⟩⟩))
  |val y=>
   have hw:bh=aC "value" y.v:=hw;subst hw;have iU:aW 1 0 w':=en.ok (c':=1) (m:=0) (aW.tick (ok.le (by exact iR) (by assumption)));have ot':=iU.t;refine ck rl hX (by rw[bU];exact fG) ?_;refine cy (t:=w'.t) ⋯ (nd (p:=cZ) ⋯ bq) ⋯ (by assumption) ?_;refine g9 [gY l.node] 0 0 (gY l.node) ⋯ (nd (p:=cZ) ⋯ bq) rfl rfl (by exact qo rfl) ?_;have fin:∀(xs:List Val) (o:AO),(aB.jb l).rd=(m,.vals xs)→fZ (az p wo K n) L B N (FF (.list pre []) (.loc 13) {w' with t:=w'.t+1} (vW (.lst [gY l.node]) 1 (xs.map Val.v)++[o,dZ "value" (.loc 10),.inst 441 12])):=fun xs o e=>by
    rw[e]at h;exact FU (w:={w' with t:=w'.t+1}) iU.aa iU.md.closed (h _ _ ⟨rfl,jM,by show w'.t+1≤_;push_cast;lia,.inl iU.md⟩)
   induction y using Val.casesOn with
   |none=>
    refine r9 (b:=true) ⋯ (nd (p:=(([]:List V).length+1≤250∧([]:List V).length+1≤250)∧([gY l.node]:List V).length+1≤500∧True) ⋯ ⟨⟨by decide,qo rfl⟩,sZ _,trivial⟩) ⋯ ?_;exact bC (p:=True) (st:=FF (.list pre []) (.loc 13) {w' with t:=w'.t+1} (vW (.lst [gY l.node]) 1 (([]:List Val).map Val.v)++[.list [] [],dZ "value" (.loc 10),.inst 441 12])) ⟨⋯,⋯,⋯,⋯,⋯⟩ trivial (fin [] _ (by simp[aB.rd,hr]))
   |int i=>
    refine r9 (b:=true) ⋯ (nd (p:=(([]:List V).length+1≤250∧([V.int i]:List V).length+1≤250)∧([gY l.node]:List V).length+1≤500∧True) ⋯ ⟨⟨by decide,qo rfl⟩,sZ _,trivial⟩) ⋯ ?_;exact bC (p:=True) (st:=FF (.list pre []) (.loc 13) {w' with t:=w'.t+1} (vW (.lst [gY l.node]) 1 (([.int i]:List Val).map Val.v)++[.list [] [.int i],dZ "value" (.loc 10),.inst 441 12])) ⟨⋯,⋯,⋯,⋯,⋯⟩ trivial (fin [.int i] _ (by simp[aB.rd,hr]))
   |bool i=>
    refine r9 (b:=true) ⋯ (nd (p:=(([]:List V).length+1≤250∧([V.bool i]:List V).length+1≤250)∧([gY l.node]:List V).length+1≤500∧True) ⋯ ⟨⟨by decide,qo rfl⟩,sZ _,trivial⟩) ⋯ ?_;exact bC (p:=True) (st:=FF (.list pre []) (.loc 13) {w' with t:=w'.t+1} (vW (.lst [gY l.node]) 1 (([.bool i]:List Val).map Val.v)++[.list [] [.bool i],dZ "value" (.loc 10),.inst 441 12])) ⟨⋯,⋯,⋯,⋯,⋯⟩ trivial (fin [.bool i] _ (by simp[aB.rd,hr]))
theorem Nu(rl:bK L k)(hn:0<n)(hl:ls.length≤3)(lC:∀l∈ls,l.ok):CW (az p wo K n) L 3 11 "values" (.lst [gY (gQ ls)]) (bZ ls).1 (su (bZ ls).2):=by
 intro w ok B pre N hX hp h;have ot:=ok.t;refine At.le (N:=(N+1+9)+1) (by exact iR) ?_;refine fR [.b false,.v (gY (gQ ls))] [.fork (([V.loc 9]:List V).length+1≤500∧([gY (gQ ls)]:List V).length+1≤500∧True) false,.pick True [gY (gQ ls)] 0,.ok cZ ((.next,cH),FF (.list pre [.loc 9,.loc (11+1)]) .none {w with t:=w.t+1} (vT (.lst [gY (gQ ls)]) 0 []++[bx "array" (gQ ls) (.int 0) (.loc (11+2)),.inst 463 11,.list [] []]))] rl hX (by lia) (.fk ⟨by decide,sZ _,trivial⟩ rfl (.pk trivial 0 rfl rfl (by exact qo rfl) (.ok bq ?_))) ⋯;refine zE (N:=N+1) (c:=9) (w:={w with t:=w.t+1}) (T:=vT (.lst [gY (gQ ls)]) 0 []) (node:=gQ ls) (node2:=gQ ls) (tr:=[10]) (zs:=[]) (d:=11) rl (Qo rl hn hl lC _ (aW.tick (ok.le (by exact pS) (qf _)))) hX (by assumption) ok.aa ok.md.closed rfl rfl
  (fun σ _=>AX rfl rfl bY) rfl rfl rfl (fun σ _=>.closed rfl) AW rfl (fun bh w' en=> ?_)
 have et:w'.t≤w.t+1+9:=en.t;have cl:=en.cl ok.aa;have jM:w'.aa=w.aa++(bZ ls).1.map Mark.v:=en.aa;have hw:Qn (bZ ls).2 bh:=en.way;have W8:=CY ls;induction hr:(bZ ls).2 using dK.casesOn with
 |raise z=>
  rw[hr]at hw h;obtain⟨e,ce,ze,rfl⟩:=hw;exact dI rl hX cl.1 cl.2 (h _ _ ⟨⟨e,ce,ze,rfl⟩,jM,by push_cast;lia,.inr ⟨cl.2,_,rfl⟩⟩)
 |vals xs=>
  rw[hr]at hw h;have lx:=W8 xs hr;obtain⟨i,o,f,hw⟩:=hw;subst hw;have iU:aW 1 0 w':=en.mu (c':=1) (m:=0) (aW.tick (ok.le (by exact iR) (by simp)));have ot':=iU.t;refine fR [.v (gY (gQ ls)),.b true] [.pick cZ [gY (gQ ls)] 0,.fork ((xs.map Val.v).length+1≤500∧(([]:List V).length+1≤250∧(xs.map Val.v).length+1≤250)∧([gY (gQ ls)]:List V).length+1≤500∧True) true,.ok True ((.next,cH),FF (.list pre []) (.loc 13) {w' with t:=w'.t+1} (vW (.lst [gY (gQ ls)]) 1 (xs.map Val.v)++[.list [] (xs.map Val.v),dZ "value" (.loc 10),.inst 441 12]))] rl hX (by assumption) (.pk bq 0 rfl rfl (by exact qo rfl) (.fk ⟨tw (by lia),⟨by decide,by rw[List.length_map];lia⟩,sZ _,trivial⟩ rfl (.ok trivial ?_))) ⋯;exact FU (w:={w' with t:=w'.t+1}) iU.aa iU.md.closed (h _ _ ⟨rfl,jM,by show w'.t+1≤_;push_cast;lia,.inl iU.md⟩)
theorem UE{t:aB}(rl:bK L k)(hn:0<n)(ok:t.ok):CW (az p wo K n) L 3 11 "values" (.lst [t.node]) t.rd.1 (su t.rd.2):=by
 induction t using aB.casesOn with
 |leaf l=>exact(Ie (ls:=[l]) rl hn (by exact rB) (fun x hx=>by cases hx with|head=>exact ok|tail _ h=>cases h)).le (by exact rB) (by exact fG) fun v h=>h
 |jb l=>exact(Qp rl hn ok).le (by lia) (by exact fG) fun v h=>h
 |iM ls=>exact(Nu rl hn ok.1 ok.2).le (by exact qf _) (by exact qf _) fun v h=>h
end
theorem nU{ay:Val}{oh iQ:Int}{xs:List Val}(hs:kC 13 state=true)(i:Nat)(o:AO)(e:(cT kind (aj kd qW) state ay oh iQ (xs.map Val.v))[i]? =some o):nQ (8+(cT kind (aj kd qW) state ay oh iQ (xs.map Val.v)).length) o=true:=by
 exact pH (P:=fun o=>nQ 13 o=true) (by show eV (kC 13 state) true=true;rw[hs];rfl) (pH rfl (pH (by cases ay<;>rfl) (pH rfl (pH (by exact FQ (c:=13) xs) Su)))) i o e
theorem nV{σ:Nat→Addr}{st:St}{kind:Str}{node state:V}{ay:Val}{oh iQ:Int}{xs:List Val}(hn:aJ node=true)(hs:aJ state=true)(h8:aD[8]? =some 8)(n9:aD[10]? =some 10)(AV:aD[11]? =some 11)(vQ:aD[12]? =some 12)
  (e:∀i o,(cT kind node state ay oh iQ (xs.map Val.v))[i]? =some o→st[8+i]? =some o):uB aD z σ st [8,9,10,11,12] (cT kind node state ay oh iQ (xs.map Val.v)):=
 .cons (e 0 _ rfl) (.dict (.cons (.closed ⋯) (.cons (.closed hn) (.cons (.closed rfl) (.cons (.closed rfl) (.cons (.closed hs) (.cons (.loc AV) (.cons (.closed rfl) .nil))))))))
  (.cons (e 1 _ rfl) (.inst 463 h8) (.cons (e 2 _ rfl) (.dict (.cons (.closed (bN ay)) (.cons (.closed rfl) (.cons (.closed rfl) (.cons (.loc vQ) .nil)))))
   (.cons (e 3 _ rfl) (.inst 764 n9) (.cons (e 4 _ rfl) (.list (gS (jm xs))) .nil))))
noncomputable def cM(kind:Str)(node state:V)(ay:Val)(oh iQ:Int):St:=[bx kind node state (.loc 12),.inst 463 8,.list [] [],Ca ay.v oh iQ 13,.inst 764 11,.list [] []]
theorem sy{aD:List Nat}{z:Nat→Prop}{σ:Nat→Addr}{st:St}(hn:aJ node=true)(hs:aJ state=true)(h8:aD[8]? =some 8)(n9:aD[10]? =some 11)(AV:aD[11]? =some 12)(vQ:aD[12]? =some 13)
  (e:∀i o,(cM kind node state ay oh iQ)[i]? =some o→st[8+i]? =some o):uB aD z σ st [8,9,11,12,13] (cT kind node state ay oh iQ []):=
 .cons (e 0 _ rfl) (.dict (.cons (.closed ⋯) (.cons (.closed hn) (.cons (.closed rfl) (.cons (.closed rfl) (.cons (.closed hs) (.cons (.loc AV) (.cons (.closed rfl) .nil))))))))
  (.cons (e 1 _ rfl) (.inst 463 h8) (.cons (e 3 _ rfl) (.dict (.cons (.closed (bN ay)) (.cons (.closed rfl) (.cons (.closed rfl) (.cons (.loc vQ) .nil)))))
   (.cons (e 4 _ rfl) (.inst 764 n9) (.cons (e 5 _ rfl) (.fix rfl) .nil))))
noncomputable def sA(c:Nat):ai:=[("NoMatchingPatternError",.loc (c+1)),("StandardError",.loc (c+8)),("Exception",.loc (c+15)),("String",.loc (c+25)),("Comparable",.loc (c+33))]
noncomputable def aa7(c:Nat)(a:Int)(o:Value):AO:=.dict [("number",.num a),("owner",.aL o),("fields",.loc (c+2)),("own",.none),("frozen",.bool false),("ident",.none),("name",.str "NoMatchingPatternError"),("is_class",.bool true),
 ("parent",.loc (c+8)),("outer",.none),("methods",.loc (c+3)),("constants",.loc (c+4)),("mixed",.loc (c+23)),("ahead",.loc (c+6)),("attached",.none),("native",.str "NoMatchingPatternError"),("kept",.none)]
noncomputable def Xa(c:Nat)(a:Int)(s:Str):AO:=.dict [("number",.num a),("owner",.loc (c+25)),("fields",.loc (c+42)),("own",.none),("frozen",.bool false),("ident",.none),("text",.str s)]
noncomputable def Xb(c:Nat)(a:Int):AO:=.dict [("number",.num a),("owner",.loc (c+1)),("fields",.loc (c+45)),("own",.none),("frozen",.bool false),("ident",.none),("message",.loc (c+41)),("cause",.none)]
section
variable{K:Frag}
theorem Qq(c:Nat){out main:Value}{X:St}{a1 a2 a3:Int}{o1:Value}{s:Str}(hc:8≤c)(hm:bB aa=true)(hd:dF md=true)
  (e0:(FF (.list pre []) (.loc (c+47)) ⟨aa,t,ln,md++sA c,out,main⟩ X)[c]? =some (aa7 c a1 o1))
  (e1:(FF (.list pre []) (.loc (c+47)) ⟨aa,t,ln,md++sA c,out,main⟩ X)[c+1]? =some (.inst 228 c))
  (e2:(FF (.list pre []) (.loc (c+47)) ⟨aa,t,ln,md++sA c,out,main⟩ X)[c+40]? =some (Xa c a2 s))
  (e3:(FF (.list pre []) (.loc (c+47)) ⟨aa,t,ln,md++sA c,out,main⟩ X)[c+41]? =some (.inst 62 (c+40)))
  (e4:(FF (.list pre []) (.loc (c+47)) ⟨aa,t,ln,md++sA c,out,main⟩ X)[c+43]? =some (Xb c a3))
  (e5:(FF (.list pre []) (.loc (c+47)) ⟨aa,t,ln,md++sA c,out,main⟩ X)[c+44]? =some (.inst 181 (c+43)))
  (e6:(FF (.list pre []) (.loc (c+47)) ⟨aa,t,ln,md++sA c,out,main⟩ X)[c+46]? =some (dZ "raise" (.loc (c+44))))
  (e7:(FF (.list pre []) (.loc (c+47)) ⟨aa,t,ln,md++sA c,out,main⟩ X)[c+47]? =some (.inst 441 (c+46)))
  (h:∀e lU,aJ e=true→J4 ("NoMatchingPatternError "++s) e→dF lU=true→At (az p wo K n) L 8 B (FF (.list pre []) (aC "raise" e) ⟨aa,t,ln,lU,out,main⟩ []) N):
  fZ (az p wo K n) L B N (FF (.list pre []) (.loc (c+47)) ⟨aa,t,ln,md++sA c,out,main⟩ X):=by
 have hz:∀i,i≤47→c+i∈(List.range 48).map (c+·):=fun i hi=>List.mem_map.mpr ⟨i,List.mem_range.mpr (by exact Nat.lt_succ_of_le ‹_›),rfl⟩;refine zF (zs:=(List.range 48).map (c+·)) ?_ hm fun σ Ni=> ?_
 ·refine Bool.and_eq_true_iff.mpr ⟨rfl,Bool.and_eq_true_iff.mpr ⟨List.all_eq_true.mpr fun k hk=> ?_,rfl⟩⟩;have h8:k<8:=List.mem_range.mp (show k∈List.range 8 from hk);rw[Bool.not_eq_true',List.contains_eq_mem,decide_eq_false_iff_not];exact fun q=>by obtain⟨i,_,e⟩:=List.mem_map.mp q;lia
 ·let gs:List (Str×V):=[(("number":Str),.int a1),(("owner":Str),.aL o1),(("fields":Str),.aL (.ref (σ (c+2)))),(("own":Str),.none),(("frozen":Str),.bool false),(("ident":Str),.none),(("name":Str),.str "NoMatchingPatternError"),(("is_class":Str),.bool true),
   (("parent":Str),.aL (.ref (σ (c+8)))),(("outer":Str),.none),(("methods":Str),.aL (.ref (σ (c+3)))),(("constants":Str),.aL (.ref (σ (c+4)))),(("mixed":Str),.aL (.ref (σ (c+23)))),(("ahead":Str),.aL (.ref (σ (c+6)))),(("attached":Str),.none),(("native":Str),.str "NoMatchingPatternError"),(("kept":Str),.none)]
  let hs:List (Str×V):=[(("number":Str),.int a2),(("owner":Str),.aL (.ref (σ (c+25)))),(("fields":Str),.aL (.ref (σ (c+42)))),(("own":Str),.none),(("frozen":Str),.bool false),(("ident":Str),.none),(("text":Str),.str s)]
  let fs:List (Str×V):=[(("number":Str),.int a3),(("owner":Str),.inst 228 gs),(("fields":Str),.aL (.ref (σ (c+45)))),(("own":Str),.none),(("frozen":Str),.bool false),(("ident":Str),.none),(("message":Str),.inst 62 hs),(("cause":Str),.none)]
  refine⟨aC "raise" (.inst 181 fs),md++[(("NoMatchingPatternError":Str),.aL (.ref (σ (c+1)))),(("StandardError":Str),.aL (.ref (σ (c+8)))),(("Exception":Str),.aL (.ref (σ (c+15)))),(("String":Str),.aL (.ref (σ (c+25)))),(("Comparable":Str),.aL (.ref (σ (c+33))))], ?_, ?_, ?_⟩
  ·refine eN (hz _ (by exact qf _)) (hz _ (by exact pS)) e7 e6 (.inst (hz _ (by exact fG)) (hz _ (by exact fG)) e5 e4 ?_);refine .cons (.num _) (.cons (.inst (hz 1 (by exact rB)) (hz 0 (by exact nz)) e1 e0 ?_) (.cons (.aL _) (.cons (.closed rfl) (.cons (.closed rfl) (.cons (.closed rfl) (.cons (.inst (hz _ (by exact fG)) (hz _ (by exact fG)) e3 e2 ?_) (.cons (.closed rfl) .nil)))))))
   ·exact .cons (.num _) (.cons (.closed rfl) (.cons (.aL _) (.cons (.closed rfl) (.cons (.closed rfl) (.cons (.closed rfl) (.cons (.closed rfl) (.cons (.closed rfl) (.cons (.aL _) (.cons (.closed rfl) (.cons (.aL _) (.cons (.aL _) (.cons (.aL _) (.cons (.aL _) (.cons (.closed rfl) (.cons (.closed rfl) (.cons (.closed rfl) .nil))))))))))))))))
   ·exact .cons (.num _) (.cons (.aL _) (.cons (.aL _) (.cons (.closed rfl) (.cons (.closed rfl) (.cons (.closed rfl) (.cons (.closed ⋯) .nil))))))
  ·exact AY (fh hd) (.cons (.aL _) (.cons (.aL _) (.cons (.aL _) (.cons (.aL _) (.cons (.aL _) .nil)))))
  ·refine h _ _ rfl ⟨s,a1,a2,a3,o1,fun i=>.ref (σ (c+i)),rfl,rfl⟩ ?_;clear Ni h e0 e1 e2 e3 e4 e5 e6 e7;induction md with
   |nil=>rfl
   |cons x l ih=>
    rw[List.cons_append];show eV (kC 0 x.2) (pO 0 (l++_))=true;rw[(bk hd).1];exact ih (bk hd).2
end
noncomputable def FW(d:Nat)(a:Int)(o:Addr)(name:Str)(cls:Bool)(Xc:V)(mx:Nat):St:=[.dict [("number",.num a),("owner",.aL (.ref o)),("fields",.loc (d+2)),("own",.none),("frozen",.bool false),("ident",.none),("name",.str name),("is_class",.bool cls),
 ("parent",Xc),("outer",.none),("methods",.loc (d+3)),("constants",.loc (d+4)),("mixed",.loc mx),("ahead",.loc (d+6)),("attached",.none),("native",.str name),("kept",.none)],
 .inst 228 d,.dict [],.dict [],.dict [],.list [] [],.list [] []]
noncomputable def yb(c:Nat)(ln:Int)(q:Nat→Addr)(s:Str):St:=
 FW c (ln+1+1) (q 2) "NoMatchingPatternError" true (.loc (c+8)) (c+23)++(FW (c+7) (ln+1+1+1) (q 2) "StandardError" true (.loc (c+15)) (c+22)++(FW (c+14) (ln+1+1+1+1) (q 2) "Exception" true (.aL (.ref (q 0))) (c+21)++
 ([.list [] [],.list [] [],.list [] []]++(FW (c+24) (ln+1+1+1+1+1+1) (q 2) "String" true (.aL (.ref (q 0))) (c+31)++([.list [] [.loc (c+33)]]++(FW (c+32) (ln+1+1+1+1+1+1+1) (q 3) "Comparable" false .none (c+39)++
 [.list [] [],Xa c (ln+1+1+1+1+1) s,.inst 62 (c+40),.dict [],Xb c (ln+1),.inst 181 (c+43),.dict [],dZ "raise" (.loc (c+44)),.inst 441 (c+46)]))))))
theorem nk(i:Nat):(FF vO way w (T++Y))[8+T.length+i]? =Y[i]? :=by
 rw[Nat.add_assoc,kj,qx (by exact mh)];congr 1;simp
section
variable{K:Frag}
theorem Cb(T:St)(hm:bB aa=true)(hd:dF md=true)
  (h:∀e lU,aJ e=true→J4 ("NoMatchingPatternError "++s) e→dF lU=true→At (az p wo K n) L 8 B (FF (.list pre []) (aC "raise" e) ⟨aa,t,ln+1+1+1+1+1+1+1,lU,out,main⟩ []) N):
  fZ (az p wo K n) L B N (FF (.list pre []) (.loc (8+T.length+47)) ⟨aa,t,ln+1+1+1+1+1+1+1,md++sA (8+T.length),out,main⟩ (T++yb (8+T.length) ln q s)):=by
 refine Qq (8+T.length) (a1:=ln+1+1) (a2:=ln+1+1+1+1+1) (a3:=ln+1) (o1:=.ref (q 2)) (s:=s) (by exact mh) hm hd ?_ ?_ ?_ ?_ ?_ ?_ ?_ ?_ h
 ·exact nk 0
 ·exact nk 1
 ·exact nk 40
 ·exact nk 41
 ·exact nk 43
 ·exact nk 44
 ·exact nk 46
 ·exact nk 47
def DG:Prop:=(10:Nat)≤16777216∧(10:Nat)≤16777216∧(14:Nat)≤16777216∧(14:Nat)≤16777216∧(23:Nat)≤16777216∧(23:Nat)≤16777216∧(11:Nat)≤16777216∧(11:Nat)≤16777216∧(1:Nat)≤500∧(7:Nat)≤16777216∧(7:Nat)≤16777216∧True
theorem FY:DG:=by unfold DG;decide
noncomputable def nW(f:Bool)(q:Nat→Addr):ai:=match f with|false=>vP q|true=>H8 q
theorem pR.get(h:pR md):∃f q,md=nW f q:=by
 obtain⟨q,h|h⟩:=h
 ·exact⟨false,q,h⟩
 ·exact⟨true,q,h⟩
theorem vm(f:Bool)(q:Nat→Addr):dF (nW f q)=true:=by induction f using qd<;>rfl
structure Nv (k:Nat) (r:aA cC) (x:Val) (p1:Prop) (mH CZ:St):Prop where
 a:BP r=some (345,[x.v])
 n:eY r=p1
 d:BQ r=k+38
 s:lX r=mH
 o:iL (jQ r (.str (eB x)) mH)=true
 m:eY (jQ r (.str (eB x)) mH)=DG
 e1:yQ (jQ r (.str (eB x)) mH)=.next
 e2:sY (jQ r (.str (eB x)) mH)=cH
 e3:lS (jQ r (.str (eB x)) mH)=CZ
theorem UG(F:Nv k r x p1 mH CZ)(hn:0<n)(ok:x.ok)(hp:p1)(q:fZ (az p wo K n) L B N CZ):Gd (dS n) aI r (ju (az p wo K n) L B N):=
 FI x hn ok F.a (nd F.n hp) (k+38) F.d (by exact fG) mH F.s (bC ⟨F.o,F.m,F.e1,F.e2,F.e3⟩ FY q)
theorem UH(x:Val)(f:Bool)(q:Nat→Addr):
  Nv k (ah (bT p wo K n k (FF (.list pre [.loc 9]) (aC "value" (.bool false)) ⟨aa,t,ln,nW f q,out,main⟩ (cT "matchq" (aj "matchq" node) (.str "matched") x 0 0 []))) false) x ((2:Nat)≤500∧True)
   (FF (.list pre [.loc 9]) .none ⟨aa,t+1,ln,nW f q,out,main⟩ (cT "matchq" (aj "matchq" node) (.str "matched") x 0 0 []))
   (FF (.list pre []) (.loc 60) ⟨aa,t+1,ln+1+1+1+1+1+1+1,nW f q++sA 13,out,main⟩ (cT "matchq" (aj "matchq" node) (.str "matched") x 0 0 []++yb 13 ln q (eB x))):=by
 induction f using qd<;>induction x using Val.casesOn<;>exact⟨⋯,⋯,⋯,⋯,⋯,⋯,⋯,⋯,⋯⟩
theorem Kd(rl:bK L k)(hn:0<n)(hX:∀b,aF L.env b→B.X b)(fC:x.ok)(ok:aW 1 0 w)
  (h:∀u w',bO ([],if b=true then .val .none else .raise (jD x)) 1 w u w'→At (az p wo K n) L 8 B (FF (.list pre []) u w' []) N):
  At (az p wo K n) L 8 B (FF (.list pre [.loc 9]) (aC "value" (.bool b)) w (cT "matchq" (aj "matchq" node) (.str "matched") x 0 0 [])) (N+1):=by
 obtain⟨aa,t,ln,md,out,main⟩:=w;have ot:t+1≤20000:=ok.t;refine ck rl hX (by rw[bU];exact fG) ?_;induction b using qd with
 |true=>
  refine cy (t:=t) ⋯ (nd (p:=cZ) ⋯ bq) ⋯ (by assumption) ?_;refine bC (p:=cZ) (st:=FF (.list pre []) (.loc 14) ⟨aa,t+1,ln,md,out,main⟩ (cT "matchq" (aj "matchq" node) (.str "matched") x 0 0 []++[dZ "value" .none,.inst 441 13])) ⟨⋯,⋯,⋯,⋯,⋯⟩ bq ?_;refine fj (bh:=aC "value" .none) (zs:=[14,13]) rfl (fun σ _=>eN (j:=14) (d:=13) (v:=.none) (by exact ms) (by exact kI) rfl rfl (.closed rfl)) ok.aa ok.md.closed (h _ _ ⟨rfl, ?_, ?_,.inl ok.md⟩)
  ·show aa=aa++[];exact(List.append_nil _).symm
  ·show t+1≤t+(1:Nat);simp
 |false=>
  obtain⟨f,q,em⟩:=pR.get ok.md;have em:md=nW f q:=em;subst em;refine cy (t:=t) ⋯ (nd (p:=cZ) ⋯ bq) ⋯ (by lia) ?_;exact UG (UH x f q) hn fC ⟨by decide,trivial⟩ (Cb (cT "matchq" (aj "matchq" node) (.str "matched") x 0 0 []) ok.aa (vm f q) fun e lU ce er cd=>h _ _ ⟨⟨e,ce,er,rfl⟩,by show aa=aa++[];exact(List.append_nil _).symm,by show t+1≤t+(1:Nat);simp,.inr ⟨cd,_,rfl⟩⟩)
end
section
variable{K:Frag}
theorem Ke(rl:bK L k)(hn:0<n)(h2:2≤hg)(iU:CR r.2)(hb:iO (az p wo K n) L hg c kb (aj kb pb) r)(hq:∀x:Val,x.ok→w6 (az p wo K n) L 2 19 kq (aj kq pq) x (dQ (q.fits x))):
  iO (az p wo K n) L (hg+1) (c+22) "matchq" (aj "matchq" (.tup [aj kb pb,aj kq pq])) (cY r (d9 q)):=by
 intro w ok B pre N hX hp h;obtain⟨m1,w1⟩:=r;have ot:=ok.t;have l1:m1.length≤(cY (m1,w1) (d9 q)).1.length:=by
  induction w1 using bu.casesOn with
  |raise z=>exact qf _
  |val x=>simp[cY,Mine.Internal.after]
 refine At.le (N:=(N+21+c)+1) (by lia) ?_;refine fR [] [.ok (([V.loc 9]:List V).length+1≤500∧cZ) ((.next,cH),FF (.list pre [.loc 9,.loc (11+1)]) .none {w with t:=w.t+1} (tT "matchq" (aj "matchq" (.tup [aj kb pb,aj kq pq])) (.str "value")++[bx kb (aj kb pb) (.int 0) (.loc (11+2)),.inst 463 11,.list [] []]))] rl hX (by lia) (.ok ⟨bq.1,bq⟩ ?_) ⋯;refine gA (N:=N+21) (c:=c) (w:={w with t:=w.t+1}) (T:=tT "matchq" (aj "matchq" (.tup [aj kb pb,aj kq pq])) (.str "value")) (node2:=aj kb pb) (tr:=[10]) (zs:=[]) (d:=11) rl hb hX (by assumption) (aW.tick (ok.le (by lia) l1)) rfl rfl
  (fun σ _=>uD rfl rfl rfl rfl bY) rfl rfl rfl (fun σ _=>.closed rfl) (uC rfl) rfl (fun bh w' en=> ?_)
 have et:w'.t≤w.t+1+c:=en.t;induction w1 using bu.casesOn with
 |raise z=>
  have cl:=en.cl ok.aa;obtain⟨e,ce,ze,rfl⟩:=en.way;exact At.le (N:=N+1) (by lia) (dI rl hX cl.1 cl.2 (h _ _ ⟨⟨e,ce,ze,rfl⟩,en.aa,by push_cast;lia,en.md⟩))
 |val x=>
  have fC:x.ok:=iU;have hw:bh=aC "value" x.v:=en.way;subst hw;have W5:cY (m1,.val x) (d9 q)=after m1 (d9 q x):=rfl;rw[W5]at ok h;have l2:(dQ (q.fits x)).1.length=(d9 q x).1.length:=by
   unfold d9 dQ;induction q.fits x using qn with
   |mk m f=>induction f using fc.casesOn with
    |raise z=>rfl
    |val b=>induction b using qd<;>rfl
  have fS:aW 21 (dQ (q.fits x)).1.length w':=en.ok (c':=21) (aW.tick (ok.le (by exact iR) (by rw[l2];simp[Mine.Internal.after])));refine At.le (N:=(N+1+19)+1) (by exact iR) ?_;refine fR [] [.ok (([V.loc 9]:List V).length+1≤500∧cZ) ((.next,cH),FF (.list pre [.loc 9,.loc (14+1)]) .none {w' with t:=w'.t+1} (cM "matchq" (aj "matchq" (.tup [aj kb pb,aj kq pq])) (.str "matched") x 0 0++[bx kq (aj kq pq) (.int 0) (.loc (14+4)),.inst 463 14,.list [] [],sq x.v 0 (14+5) (14+6),.inst 708 (14+3),.list [] [],.dict []]))] rl hX (by have:=fS.t;omega) (.ok ⟨bq.1,bq⟩ ?_) (by induction x using Val.casesOn<;>kernel_rfl)
  refine sr (N:=N+1) (c:=19) (w:={w' with t:=w'.t+1}) (T:=cT "matchq" (aj "matchq" (.tup [aj kb pb,aj kq pq])) (.str "matched") x 0 0 []) (tr:=[11,12,13]) (zs:=[]) (d:=14) rl (hq x fC) hX (by lia) (aW.tick (fS.le (by exact pS) (qf _))) rfl rfl
   (fun σ _=>sy rfl rfl rfl rfl rfl rfl bY) rfl rfl rfl rfl rfl rfl (nU (xs:=[]) rfl) rfl (fun nT w2 cj=> ?_)
  have et2:w2.t≤w'.t+1+19:=cj.t;have em:w2.aa=w.aa++(m1++(q.fits x).1).map Mark.v:=by rw[cj.aa];show w'.aa++_=_;rw[en.aa];simp[dQ]
  have w7:=cj.cl fS.aa;have pJ:oZ (dQ (q.fits x)).2 nT:=cj.way;have Hu:∀b,nT=aC "value" (.bool b)→aW 1 0 w2:=fun b e=>by
   subst e;exact cj.ok (c':=1) (m:=0) (aW.tick (fS.le (by exact iR) (by simp)))
  induction hf:q.fits x using qn with
  |mk m2 f=>
   rw[hf]at pJ em;induction f using fc.casesOn with
   |raise z=>
    have hA:d9 q x=(m2,.raise z):=by unfold d9;rw[hf]
    rw[hA]at h;obtain⟨e,ce,ze,rfl⟩:=pJ;exact dI rl hX w7.1 w7.2 (h _ _ ⟨⟨e,ce,ze,rfl⟩,em,by push_cast;lia,cj.md⟩)
   |val b=>
    have hA:d9 q x=(m2,if b=true then .val .none else .raise (jD x)):=by unfold d9;rw[hf];induction b using qd<;>rfl
    rw[hA]at h;have pJ:nT=aC "value" (.bool b):=pJ;have mu:=Hu b pJ;subst pJ;refine Kd rl hn hX fC mu fun u w3 vR=>h _ _ ⟨vR.way, ?_, ?_,vR.md⟩
    ·rw[vR.aa,em];exact List.append_nil _
    ·have:=vR.t;push_cast at this⊢;lia
end
noncomputable abbrev bz(sv:V)(aP:List V)(ov:V):V:=aj "case" (.tup [sv,.lst aP,ov])
noncomputable def cA(kind:Str)(node state:V)(ay:Val)(oh iQ:Int)(vals:List V):St:=[bx kind node state (.loc 11),.inst 463 8,Ca ay.v oh iQ 13,.inst 764 10,.list [] [],.list [] vals]
theorem je{σ:Nat→Addr}{st:St}{kind:Str}{node state:V}{ay:Val}{oh iQ:Int}{xs:List Val}(hn:aJ node=true)(hs:aJ state=true)(h8:aD[8]? =some 8)(n9:aD[10]? =some 10)(AV:aD[11]? =some 11)(vQ:aD[12]? =some 13)
  (e:∀i o,(cA kind node state ay oh iQ (xs.map Val.v))[i]? =some o→st[8+i]? =some o):uB aD z σ st [8,9,10,11,13] (cT kind node state ay oh iQ (xs.map Val.v)):=
 .cons (e 0 _ rfl) (.dict (.cons (.closed ⋯) (.cons (.closed hn) (.cons (.closed rfl) (.cons (.closed rfl) (.cons (.closed hs) (.cons (.loc AV) (.cons (.closed rfl) .nil))))))))
  (.cons (e 1 _ rfl) (.inst 463 h8) (.cons (e 2 _ rfl) (.dict (.cons (.closed (bN ay)) (.cons (.closed rfl) (.cons (.closed rfl) (.cons (.loc vQ) .nil)))))
   (.cons (e 3 _ rfl) (.inst 764 n9) (.cons (e 5 _ rfl) (.list (gS (jm xs))) .nil))))
def iz(r:aA cC)(p:Prop)(st:St):Prop:=iL r=true∧eY r=p∧yQ r=.next∧sY r=cH∧lS r=st
def kM(r:aA cC)(p:Prop)(b:Bool):Prop:=wI r=true∧eY r=p∧xS r=b
def pK(r:aA cC)(p:Prop)(vs:List V)(i:Int):Prop:=JI r=some (vs,i)∧eY r=p
noncomputable abbrev dg(ts:List V)(b:V):V:=.tup [.lst ts,b]
structure Ask (r:aA cC) (a j:Nat) (aP:List V) (sT:Int→Int→V→St):Prop where
 k1:pK (ah r true) True aP (a:Int)
 k2:∀ts b,kM (bE (ah r true) (dg ts b)) (ts.length+1≤500∧True) (decide ((j:Int)=Int.ofNat ts.length))
 k3:∀ts b,kM (ah (bE (ah r true) (dg ts b)) false) (aP.length+1≤500∧True) (decide ((a:Int)=Int.ofNat aP.length))
 k4:∀ts b,pK (ah (ah (bE (ah r true) (dg ts b)) false) false) True aP (a:Int)
 k5:∀ts b cg b',pK (bE (ah (ah (bE (ah r true) (dg ts b)) false) false) (dg cg b')) True cg (j:Int)
 k6:∀ts b cg b' t,iz (bE (bE (ah (ah (bE (ah r true) (dg ts b)) false) false) (dg cg b')) t) ((2:Nat)≤500∧True) (sT a ((j:Int)+1) t)
 l3:∀ts b,kM (ah (bE (ah r true) (dg ts b)) true) (aP.length+1≤500∧True) (decide ((a:Int)+1<Int.ofNat aP.length))
 l4:∀ts b,pK (ah (ah (bE (ah r true) (dg ts b)) true) true) True aP ((a:Int)+1)
 l5:∀ts b cg b',kM (bE (ah (ah (bE (ah r true) (dg ts b)) true) true) (dg cg b')) (cg.length+1≤500∧True) (decide ((0:Int)=Int.ofNat cg.length))
 l6:∀ts b cg b',kM (ah (bE (ah (ah (bE (ah r true) (dg ts b)) true) true) (dg cg b')) false) (aP.length+1≤500∧True) (decide ((a:Int)+1=Int.ofNat aP.length))
 l7:∀ts b cg b',pK (ah (ah (bE (ah (ah (bE (ah r true) (dg ts b)) true) true) (dg cg b')) false) false) True aP ((a:Int)+1)
 l8:∀ts b cg b' t2 b2,pK (bE (ah (ah (bE (ah (ah (bE (ah r true) (dg ts b)) true) true) (dg cg b')) false) false) (dg t2 b2)) True t2 0
 l9:∀ts b cg b' t2 b2 t,iz (bE (bE (ah (ah (bE (ah (ah (bE (ah r true) (dg ts b)) true) true) (dg cg b')) false) false) (dg t2 b2)) t) ((2:Nat)≤500∧True) (sT ((a:Int)+1) 1 t)
 m6:∀ts b,kM (ah (ah (bE (ah r true) (dg ts b)) true) false) (aP.length+1≤500∧True) (decide ((a:Int)+1=Int.ofNat aP.length))
section
variable{K:Frag}
theorem jT{p:Prop}{r:aA cC}(h:kM r p b)(hp:p)(hb:b=c)(hk:Gd (dS n) aI (ah r c) Q):Gd (dS n) aI r Q:=r9 h.1 (nd h.2.1 hp) (h.2.2.trans hb) hk
theorem vn(j:Nat)(v:V)(h:pK r True vs i)(hi:i=Int.ofNat j)(hv:vs[j]? =some v)(hl:vs.length<500)(hk:Gd (dS n) aI (bE r v) Q):Gd (dS n) aI r Q:=g9 vs i j v h.1 (gW h.2) hi hv hl hk
theorem dJ:(2:Nat)≤500∧True:=by decide
theorem Xd{d a j:Nat}{ws:List (List aB×Tree d)}{aS:List aB}{body:Tree d}{rest:List (List aB×Tree d)}{r:aA cC}(A:Ask r a j (ws.map (bI (Tree.node d))) sT)
  (F:kM r p1 (decide ((a:Int)<Int.ofNat (ws.map (bI (Tree.node d))).length)))(hp:p1)(hl:ws.length≤3)(bX:∀w∈ws,1≤w.1.length∧w.1.length≤2)(ha:ws.drop a=(aS,body)::rest)(hj:j≤aS.length)
  (h1:∀t ts,aS.drop j=t::ts→fZ (az p wo K n) L B N (sT a ((j+1:Nat):Int) t.node))
  (h2:aS.drop j=[]→∀yS b1 A0 t ts,rest=(yS,b1)::A0→yS=t::ts→fZ (az p wo K n) L B N (sT ((a+1:Nat):Int) ((1:Nat):Int) t.node))
  (h3:aS.drop j=[]→rest=[]→∀ts b,Gd (dS n) aI (ah (ah (ah (bE (ah r true) (dg ts b)) true) false) true) (ju (az p wo K n) L B N)):Gd (dS n) aI r (ju (az p wo K n) L B N):=by
 have la:a<ws.length:=by
  have:=congrArg List.length ha;simp at this;omega
 have ea:ws[a]? =some (aS,body):=by
  have:=congrArg (·[0]?) ha
  simpa using this
 have lt:1≤aS.length∧aS.length≤2:=bX _ (qC ea);have lw:(ws.map (bI (Tree.node d))).length=ws.length:=List.length_map ..;have nw:(ws.map (bI (Tree.node d))).length+1≤500∧True:=⟨by rw[lw];lia,trivial⟩;have ew:(ws.map (bI (Tree.node d)))[a]? =some (dg (aS.map aB.node) (kF (Tree.node d body))):=by rw[List.getElem?_map,ea];rfl
 have nt:(aS.map aB.node).length+1≤500∧True:=⟨by rw[List.length_map];lia,trivial⟩;refine jT (c:=true) F hp (decide_eq_true (by rw[lw];show(a:Int)<(ws.length:Int);lia)) ?_;refine vn a _ A.k1 rfl ew (by lia) ?_;induction hd:aS.drop j using qh with
 |cons t ts=>
  have lj:j<aS.length:=by
   have:=congrArg List.length hd;simp at this;lia
  have ej:aS[j]? =some t:=by
   have:=congrArg (·[0]?) hd
   simpa using this
  refine jT (c:=false) (A.k2 _ _) nt (decide_eq_false (by rw[List.length_map];show¬(j:Int)=(aS.length:Int);lia)) ?_;refine jT (c:=false) (A.k3 _ _) nw (decide_eq_false (by rw[lw];show¬(a:Int)=(ws.length:Int);lia)) ?_;refine vn a _ (A.k4 _ _) rfl ew (by lia) ?_;refine vn j t.node (A.k5 _ _ _ _) rfl (by rw[List.getElem?_map,ej];rfl) (by rw[List.length_map];lia) ?_;exact bC (A.k6 _ _ _ _ _) dJ (h1 t ts hd)
 |nil=>
  have lj:aS.length=j:=by
   have:=congrArg List.length hd;simp at this;lia
  refine jT (c:=true) (A.k2 _ _) nt (decide_eq_true (by rw[List.length_map,lj];rfl)) ?_;induction rest using qh with
  |cons w1 A0=>
   obtain⟨yS,b1⟩:=w1;have uE:ws.drop (a+1)=(yS,b1)::A0:=by rw[←List.drop_drop,ha];rfl
   have la1:a+1<ws.length:=by
    have:=congrArg List.length uE;simp at this;omega
   have ea1:ws[a+1]? =some (yS,b1):=by
    have:=congrArg (·[0]?) uE
    simpa using this
   have R8:1≤yS.length∧yS.length≤2:=bX _ (qC ea1);have ew1:(ws.map (bI (Tree.node d)))[a+1]? =some (dg (yS.map aB.node) (kF (Tree.node d b1))):=by rw[List.getElem?_map,ea1];rfl
   induction yS using qh with
   |nil=>have:=R8.1;simp at this
   |cons t ts=>
    have nt1:((t::ts).map aB.node).length+1≤500∧True:=⟨by rw[List.length_map];have:=R8.2;lia,trivial⟩;refine jT (c:=true) (A.l3 _ _) nw (decide_eq_true (by rw[lw];show(a:Int)+1<(ws.length:Int);lia)) ?_;refine vn (a+1) _ (A.l4 _ _) rfl ew1 (by lia) ?_;refine jT (c:=false) (A.l5 _ _ _ _) nt1 (decide_eq_false (by rw[List.length_map];show¬(0:Int)=((ts.length+1:Nat):Int);lia)) ?_;refine jT (c:=false) (A.l6 _ _ _ _) nw (decide_eq_false (by rw[lw];show¬(a:Int)+1=(ws.length:Int);lia)) ?_;refine vn (a+1) _ (A.l7 _ _ _ _) rfl ew1 (by lia) ?_;refine vn 0 t.node (A.l8 _ _ _ _ _ _) rfl rfl (by have:=nt1.1;assumption) ?_;exact bC (A.l9 _ _ _ _ _ _ _) dJ (h2 hd _ _ _ t ts rfl rfl)
  |nil=>
   have la1:ws.length=a+1:=by
    have:=congrArg List.length ha;simp at this;lia
   refine jT (c:=false) (A.l3 _ _) nw (decide_eq_false (by rw[lw];show¬(a:Int)+1<(ws.length:Int);lia)) ?_;refine jT (c:=true) (A.m6 _ _) nw (decide_eq_true (by rw[lw,la1];rfl)) ?_;exact h3 hd rfl _ _
end
local macro_rules
 | `(tactic|ac_rfl)=> `(tactic|exact⟨⟨⋯,⋯⟩,fun _ _=>⟨⋯,⋯,⋯⟩,fun _ _=>⟨⋯,⋯,⋯⟩,fun _ _=>⟨⋯,⋯⟩,fun _ _ _ _=>⟨⋯,⋯⟩,fun _ _ _ _ _=>⟨⋯,⋯,⋯,⋯,⋯⟩,fun _ _=>⟨⋯,⋯,⋯⟩,fun _ _=>⟨⋯,⋯⟩,fun _ _ _ _=>⟨⋯,⋯,⋯⟩,fun _ _ _ _=>⟨⋯,⋯,⋯⟩,fun _ _ _ _=>⟨⋯,⋯⟩,fun _ _ _ _ _ _=>⟨⋯,⋯⟩,fun _ _ _ _ _ _ _=>⟨⋯,⋯,⋯,⋯,⋯⟩,fun _ _=>⟨⋯,⋯,⋯⟩⟩)
section
variable{p:Program}{wo:World}{K:Frag}{n k:Nat}
noncomputable def lD(f:Bool):V:=match f with|true=>.bool false|false=>.none
theorem Kf(x:Val):Ask (ah (bT p wo K n k (FF (.list pre [.loc 9]) (aC "value" x.v) ⟨aa,t,ln,md,out,main⟩ (tT "case" (bz (aj ks ps) aP ov) (.str "subject")))) false) 0 0 aP (fun a j tv=>FF (.list pre [.loc 9,.loc (15+1)]) .none ⟨aa,t+1,ln,md,out,main⟩ (cM "case" (bz (aj ks ps) aP ov) (.str "test") x a j++[.list [] [tv],bx "values" (.loc 14) (.int 0) (.loc (15+2)),.inst 463 15,.list [] []])):=by
 induction x using Val.casesOn<;>ac_rfl
theorem C7(x:Val):kM (ah (bT p wo K n k (FF (.list pre [.loc 9]) (aC "value" x.v) ⟨aa,t,ln,md,out,main⟩ (tT "case" (bz (aj ks ps) aP ov) (.str "subject")))) false) ((2:Nat)≤500∧aP.length+1≤500∧True) (decide ((0:Int)<Int.ofNat aP.length)):=by
 induction x using Val.casesOn<;>exact⟨⋯,⋯,⋯⟩
theorem A1{aP:List V}(h:aP.length+1≤500):(2:Nat)≤500∧aP.length+1≤500∧True:=by trivial
theorem Nx(x:Val):kM (ah (ah (bT p wo K n k (FF (.list pre [.loc 9]) (aC "value" x.v) ⟨aa,t,ln,md,out,main⟩ (tT "case" (bz (aj ks ps) aP ov) (.str "subject")))) false) false) (aP.length+1≤500∧True) (decide ((0:Int)=Int.ofNat aP.length)):=by
 induction x using Val.casesOn<;>exact⟨⋯,⋯,⋯⟩
theorem Ny(x:Val):iz (ah (ah (ah (bT p wo K n k (FF (.list pre [.loc 9]) (aC "value" x.v) ⟨aa,t,ln,md,out,main⟩ (tT "case" (bz (aj ks ps) aP .none) (.str "subject")))) false) false) true) True (FF (.list pre []) (.loc 15) ⟨aa,t+1,ln,md,out,main⟩ (cM "case" (bz (aj ks ps) aP .none) (.str "subject") x 0 0++[dZ "value" .none,.inst 441 14])):=by
 induction x using Val.casesOn<;>exact⟨⋯,⋯,⋯,⋯,⋯⟩
theorem Nz(x:Val):iz (ah (ah (ah (bT p wo K n k (FF (.list pre [.loc 9]) (aC "value" x.v) ⟨aa,t,ln,md,out,main⟩ (tT "case" (bz (aj ks ps) aP (aj ko po)) (.str "subject")))) false) false) true) ((2:Nat)≤500∧True) (FF (.list pre [.loc 9,.loc (14+1)]) .none ⟨aa,t+1,ln,md,out,main⟩ (cM "case" (bz (aj ks ps) aP (aj ko po)) (.str "end") x 0 0++[bx ko (aj ko po) (.int 0) (.loc (14+2)),.inst 463 14,.list [] []])):=by
 induction x using Val.casesOn<;>exact(⟨⋯,⋯,⋯,⋯,⋯⟩)
theorem Kg:Ask (ah (bT p wo K n k (FF (.list pre [.loc 9]) .none ⟨aa,t,ln,md,out,main⟩ (tT "case" (bz .none aP ov) (.int 0)))) false) 0 0 aP (fun a j tv=>FF (.list pre [.loc 9,.loc (15+1)]) .none ⟨aa,t+1,ln,md,out,main⟩ (cM "case" (bz .none aP ov) (.str "test") .none a j++[.list [] [tv],bx "values" (.loc 14) (.int 0) (.loc (15+2)),.inst 463 15,.list [] []])):=by
 ac_rfl
theorem C8:kM (ah (bT p wo K n k (FF (.list pre [.loc 9]) .none ⟨aa,t,ln,md,out,main⟩ (tT "case" (bz .none aP ov) (.int 0)))) false) ((2:Nat)≤500∧aP.length+1≤500∧True) (decide ((0:Int)<Int.ofNat aP.length)):=by
 exact⟨⋯,⋯,⋯⟩
theorem A2{aP:List V}(h:aP.length+1≤500):(2:Nat)≤500∧aP.length+1≤500∧True:=by trivial
theorem NB:kM (ah (ah (bT p wo K n k (FF (.list pre [.loc 9]) .none ⟨aa,t,ln,md,out,main⟩ (tT "case" (bz .none aP ov) (.int 0)))) false) false) (aP.length+1≤500∧True) (decide ((0:Int)=Int.ofNat aP.length)):=by
 exact⟨⋯,⋯,⋯⟩
theorem ND:iz (ah (ah (ah (bT p wo K n k (FF (.list pre [.loc 9]) .none ⟨aa,t,ln,md,out,main⟩ (tT "case" (bz .none aP .none) (.int 0)))) false) false) true) True (FF (.list pre []) (.loc 15) ⟨aa,t+1,ln,md,out,main⟩ (cM "case" (bz .none aP .none) (.int 0) .none 0 0++[dZ "value" .none,.inst 441 14])):=by
 exact⟨⋯,⋯,⋯,⋯,⋯⟩
theorem NF:iz (ah (ah (ah (bT p wo K n k (FF (.list pre [.loc 9]) .none ⟨aa,t,ln,md,out,main⟩ (tT "case" (bz .none aP (aj ko po)) (.int 0)))) false) false) true) ((2:Nat)≤500∧True) (FF (.list pre [.loc 9,.loc (14+1)]) .none ⟨aa,t+1,ln,md,out,main⟩ (cM "case" (bz .none aP (aj ko po)) (.str "end") .none 0 0++[bx ko (aj ko po) (.int 0) (.loc (14+2)),.inst 463 14,.list [] []])):=by
 exact(⟨⋯,⋯,⋯,⋯,⋯⟩)
theorem NG(x:Val)(a j:Nat):Ask (ah (bT p wo K n k (FF (.list pre [.loc 9]) (aC "value" (.lst [])) ⟨aa,t,ln,md,out,main⟩ (cT "case" (bz (aj ks ps) aP ov) (.str "test") x a j []))) false) a j aP (fun a j tv=>FF (.list pre [.loc 9,.loc (15+1)]) .none ⟨aa,t+1,ln,md,out,main⟩ (cA "case" (bz (aj ks ps) aP ov) (.str "test") x a j []++[.list [] [tv],bx "values" (.loc 14) (.int 0) (.loc (15+2)),.inst 463 15,.list [] []])):=by
 ac_rfl
theorem Qs(x:Val)(a j:Nat):kM (ah (bT p wo K n k (FF (.list pre [.loc 9]) (aC "value" (.lst [])) ⟨aa,t,ln,md,out,main⟩ (cT "case" (bz (aj ks ps) aP ov) (.str "test") x a j []))) false) ((2:Nat)≤500∧(1:Nat)≤500∧(1:Nat)≤500∧aP.length+1≤500∧True) (decide ((a:Int)<Int.ofNat aP.length)):=by
 exact⟨⋯,⋯,⋯⟩
theorem NH{aP:List V}(h:aP.length+1≤500):(2:Nat)≤500∧(1:Nat)≤500∧(1:Nat)≤500∧aP.length+1≤500∧True:=by trivial
theorem Qt(x:Val)(a j:Nat):∀ts b,iz (ah (ah (ah (bE (ah (ah (bT p wo K n k (FF (.list pre [.loc 9]) (aC "value" (.lst [])) ⟨aa,t,ln,md,out,main⟩ (cT "case" (bz (aj ks ps) aP .none) (.str "test") x a j []))) false) true) (dg ts b)) true) false) true) True (FF (.list pre []) (.loc 15) ⟨aa,t+1,ln,md,out,main⟩ (cA "case" (bz (aj ks ps) aP .none) (.str "test") x ((a:Int)+1) 0 []++[dZ "value" .none,.inst 441 14])):=by
 exact(fun _ _=>⟨⋯,⋯,⋯,⋯,⋯⟩)
theorem Qu(x:Val)(a j:Nat):∀ts b,iz (ah (ah (ah (bE (ah (ah (bT p wo K n k (FF (.list pre [.loc 9]) (aC "value" (.lst [])) ⟨aa,t,ln,md,out,main⟩ (cT "case" (bz (aj ks ps) aP (aj ko po)) (.str "test") x a j []))) false) true) (dg ts b)) true) false) true) ((2:Nat)≤500∧True) (FF (.list pre [.loc 9,.loc (14+1)]) .none ⟨aa,t+1,ln,md,out,main⟩ (cA "case" (bz (aj ks ps) aP (aj ko po)) (.str "end") x ((a:Int)+1) 0 []++[bx ko (aj ko po) (.int 0) (.loc (14+2)),.inst 463 14,.list [] []])):=by
 exact(fun _ _=>⟨⋯,⋯,⋯,⋯,⋯⟩)
theorem Kh(x:Val)(f:Bool)(a j:Nat):Ask (ah (bT p wo K n k (FF (.list pre [.loc 9]) (aC "value" (lD f)) ⟨aa,t,ln,md,out,main⟩ (cT "case" (bz (aj ks ps) aP ov) (.str "asked") x a j []))) false) a j aP (fun a j tv=>FF (.list pre [.loc 9,.loc (14+1)]) .none ⟨aa,t+1,ln,md,out,main⟩ (cT "case" (bz (aj ks ps) aP ov) (.str "test") x a j []++[.list [] [tv],bx "values" (.loc 13) (.int 0) (.loc (14+2)),.inst 463 14,.list [] []])):=by
 induction f using qd<;>ac_rfl
theorem NI(x:Val)(f:Bool)(a j:Nat):kM (ah (bT p wo K n k (FF (.list pre [.loc 9]) (aC "value" (lD f)) ⟨aa,t,ln,md,out,main⟩ (cT "case" (bz (aj ks ps) aP ov) (.str "asked") x a j []))) false) ((2:Nat)≤500∧(1:Nat)≤500∧aP.length+1≤500∧True) (decide ((a:Int)<Int.ofNat aP.length)):=by
 induction f using qd<;>exact⟨⋯,⋯,⋯⟩
theorem Kl{aP:List V}(h:aP.length+1≤500):(2:Nat)≤500∧(1:Nat)≤500∧aP.length+1≤500∧True:=by trivial
theorem NJ(x:Val)(f:Bool)(a j:Nat):∀ts b,iz (ah (ah (ah (bE (ah (ah (bT p wo K n k (FF (.list pre [.loc 9]) (aC "value" (lD f)) ⟨aa,t,ln,md,out,main⟩ (cT "case" (bz (aj ks ps) aP .none) (.str "asked") x a j []))) false) true) (dg ts b)) true) false) true) True (FF (.list pre []) (.loc 14) ⟨aa,t+1,ln,md,out,main⟩ (cT "case" (bz (aj ks ps) aP .none) (.str "asked") x ((a:Int)+1) 0 []++[dZ "value" .none,.inst 441 13])):=by
 induction f using qd<;>exact(fun _ _=>⟨⋯,⋯,⋯,⋯,⋯⟩)
theorem NK(x:Val)(f:Bool)(a j:Nat):∀ts b,iz (ah (ah (ah (bE (ah (ah (bT p wo K n k (FF (.list pre [.loc 9]) (aC "value" (lD f)) ⟨aa,t,ln,md,out,main⟩ (cT "case" (bz (aj ks ps) aP (aj ko po)) (.str "asked") x a j []))) false) true) (dg ts b)) true) false) true) ((2:Nat)≤500∧True) (FF (.list pre [.loc 9,.loc (13+1)]) .none ⟨aa,t+1,ln,md,out,main⟩ (cT "case" (bz (aj ks ps) aP (aj ko po)) (.str "end") x ((a:Int)+1) 0 []++[bx ko (aj ko po) (.int 0) (.loc (13+2)),.inst 463 13,.list [] []])):=by
 induction f using qd<;>exact(fun _ _=>⟨⋯,⋯,⋯,⋯,⋯⟩)
theorem Km(a j:Nat):Ask (ah (bT p wo K n k (FF (.list pre [.loc 9]) (aC "value" (.lst [])) ⟨aa,t,ln,md,out,main⟩ (cT "case" (bz .none aP ov) (.str "test") .none a j []))) false) a j aP (fun a j tv=>FF (.list pre [.loc 9,.loc (15+1)]) .none ⟨aa,t+1,ln,md,out,main⟩ (cA "case" (bz .none aP ov) (.str "test") .none a j []++[.list [] [tv],bx "values" (.loc 14) (.int 0) (.loc (15+2)),.inst 463 15,.list [] []])):=by
 ac_rfl
theorem NL(a j:Nat):kM (ah (bT p wo K n k (FF (.list pre [.loc 9]) (aC "value" (.lst [])) ⟨aa,t,ln,md,out,main⟩ (cT "case" (bz .none aP ov) (.str "test") .none a j []))) false) ((2:Nat)≤500∧(1:Nat)≤500∧(1:Nat)≤500∧aP.length+1≤500∧True) (decide ((a:Int)<Int.ofNat aP.length)):=by
 exact⟨⋯,⋯,⋯⟩
theorem Kn{aP:List V}(h:aP.length+1≤500):(2:Nat)≤500∧(1:Nat)≤500∧(1:Nat)≤500∧aP.length+1≤500∧True:=by trivial
theorem NN(a j:Nat):∀ts b,iz (ah (ah (ah (bE (ah (ah (bT p wo K n k (FF (.list pre [.loc 9]) (aC "value" (.lst [])) ⟨aa,t,ln,md,out,main⟩ (cT "case" (bz .none aP .none) (.str "test") .none a j []))) false) true) (dg ts b)) true) false) true) True (FF (.list pre []) (.loc 15) ⟨aa,t+1,ln,md,out,main⟩ (cA "case" (bz .none aP .none) (.str "test") .none ((a:Int)+1) 0 []++[dZ "value" .none,.inst 441 14])):=by
 exact(fun _ _=>⟨⋯,⋯,⋯,⋯,⋯⟩)
theorem NP(a j:Nat):∀ts b,iz (ah (ah (ah (bE (ah (ah (bT p wo K n k (FF (.list pre [.loc 9]) (aC "value" (.lst [])) ⟨aa,t,ln,md,out,main⟩ (cT "case" (bz .none aP (aj ko po)) (.str "test") .none a j []))) false) true) (dg ts b)) true) false) true) ((2:Nat)≤500∧True) (FF (.list pre [.loc 9,.loc (14+1)]) .none ⟨aa,t+1,ln,md,out,main⟩ (cA "case" (bz .none aP (aj ko po)) (.str "end") .none ((a:Int)+1) 0 []++[bx ko (aj ko po) (.int 0) (.loc (14+2)),.inst 463 14,.list [] []])):=by
 exact(fun _ _=>⟨⋯,⋯,⋯,⋯,⋯⟩)
theorem Ko(a j:Nat):Ask (ah (bT p wo K n k (FF (.list pre [.loc 9]) (aC "value" (.lst [V.none])) ⟨aa,t,ln,md,out,main⟩ (cT "case" (bz .none aP ov) (.str "test") .none a j []))) false) a j aP (fun a j tv=>FF (.list pre [.loc 9,.loc (15+1)]) .none ⟨aa,t+1,ln,md,out,main⟩ (cA "case" (bz .none aP ov) (.str "test") .none a j []++[.list [] [tv],bx "values" (.loc 14) (.int 0) (.loc (15+2)),.inst 463 15,.list [] []])):=by
 ac_rfl
theorem NQ(a j:Nat):kM (ah (bT p wo K n k (FF (.list pre [.loc 9]) (aC "value" (.lst [V.none])) ⟨aa,t,ln,md,out,main⟩ (cT "case" (bz .none aP ov) (.str "test") .none a j []))) false) ((2:Nat)≤500∧(2:Nat)≤500∧(2:Nat)≤500∧(1:Nat)≤400∧(1:Nat)≤500∧aP.length+1≤500∧True) (decide ((a:Int)<Int.ofNat aP.length)):=by
 exact⟨⋯,⋯,⋯⟩
theorem Kp{aP:List V}(h:aP.length+1≤500):(2:Nat)≤500∧(2:Nat)≤500∧(2:Nat)≤500∧(1:Nat)≤400∧(1:Nat)≤500∧aP.length+1≤500∧True:=by trivial
theorem NR(a j:Nat):∀ts b,iz (ah (ah (ah (bE (ah (ah (bT p wo K n k (FF (.list pre [.loc 9]) (aC "value" (.lst [V.none])) ⟨aa,t,ln,md,out,main⟩ (cT "case" (bz .none aP .none) (.str "test") .none a j []))) false) true) (dg ts b)) true) false) true) True (FF (.list pre []) (.loc 15) ⟨aa,t+1,ln,md,out,main⟩ (cA "case" (bz .none aP .none) (.str "test") .none ((a:Int)+1) 0 []++[dZ "value" .none,.inst 441 14])):=by
 exact(fun _ _=>⟨⋯,⋯,⋯,⋯,⋯⟩)
theorem NS(a j:Nat):∀ts b,iz (ah (ah (ah (bE (ah (ah (bT p wo K n k (FF (.list pre [.loc 9]) (aC "value" (.lst [V.none])) ⟨aa,t,ln,md,out,main⟩ (cT "case" (bz .none aP (aj ko po)) (.str "test") .none a j []))) false) true) (dg ts b)) true) false) true) ((2:Nat)≤500∧True) (FF (.list pre [.loc 9,.loc (14+1)]) .none ⟨aa,t+1,ln,md,out,main⟩ (cA "case" (bz .none aP (aj ko po)) (.str "end") .none ((a:Int)+1) 0 []++[bx ko (aj ko po) (.int 0) (.loc (14+2)),.inst 463 14,.list [] []])):=by
 exact(fun _ _=>⟨⋯,⋯,⋯,⋯,⋯⟩)
theorem Kq(a j:Nat):Ask (ah (bT p wo K n k (FF (.list pre [.loc 9]) (aC "value" (.lst [V.none,V.none])) ⟨aa,t,ln,md,out,main⟩ (cT "case" (bz .none aP ov) (.str "test") .none a j []))) false) a j aP (fun a j tv=>FF (.list pre [.loc 9,.loc (15+1)]) .none ⟨aa,t+1,ln,md,out,main⟩ (cA "case" (bz .none aP ov) (.str "test") .none a j []++[.list [] [tv],bx "values" (.loc 14) (.int 0) (.loc (15+2)),.inst 463 15,.list [] []])):=by
 ac_rfl
theorem NT(a j:Nat):kM (ah (bT p wo K n k (FF (.list pre [.loc 9]) (aC "value" (.lst [V.none,V.none])) ⟨aa,t,ln,md,out,main⟩ (cT "case" (bz .none aP ov) (.str "test") .none a j []))) false) ((2:Nat)≤500∧(3:Nat)≤500∧(3:Nat)≤500∧(2:Nat)≤400∧(2:Nat)≤500∧(1:Nat)≤400∧(1:Nat)≤500∧aP.length+1≤500∧True) (decide ((a:Int)<Int.ofNat aP.length)):=by
 exact⟨⋯,⋯,⋯⟩
theorem Kr{aP:List V}(h:aP.length+1≤500):(2:Nat)≤500∧(3:Nat)≤500∧(3:Nat)≤500∧(2:Nat)≤400∧(2:Nat)≤500∧(1:Nat)≤400∧(1:Nat)≤500∧aP.length+1≤500∧True:=by trivial
theorem NU(a j:Nat):∀ts b,iz (ah (ah (ah (bE (ah (ah (bT p wo K n k (FF (.list pre [.loc 9]) (aC "value" (.lst [V.none,V.none])) ⟨aa,t,ln,md,out,main⟩ (cT "case" (bz .none aP .none) (.str "test") .none a j []))) false) true) (dg ts b)) true) false) true) True (FF (.list pre []) (.loc 15) ⟨aa,t+1,ln,md,out,main⟩ (cA "case" (bz .none aP .none) (.str "test") .none ((a:Int)+1) 0 []++[dZ "value" .none,.inst 441 14])):=by
 exact(fun _ _=>⟨⋯,⋯,⋯,⋯,⋯⟩)
theorem NV(a j:Nat):∀ts b,iz (ah (ah (ah (bE (ah (ah (bT p wo K n k (FF (.list pre [.loc 9]) (aC "value" (.lst [V.none,V.none])) ⟨aa,t,ln,md,out,main⟩ (cT "case" (bz .none aP (aj ko po)) (.str "test") .none a j []))) false) true) (dg ts b)) true) false) true) ((2:Nat)≤500∧True) (FF (.list pre [.loc 9,.loc (14+1)]) .none ⟨aa,t+1,ln,md,out,main⟩ (cA "case" (bz .none aP (aj ko po)) (.str "end") .none ((a:Int)+1) 0 []++[bx ko (aj ko po) (.int 0) (.loc (14+2)),.inst 463 14,.list [] []])):=by
 exact(fun _ _=>⟨⋯,⋯,⋯,⋯,⋯⟩)
theorem Ks(a j:Nat):Ask (ah (bT p wo K n k (FF (.list pre [.loc 9]) (aC "value" (.lst [V.none,V.none,V.none])) ⟨aa,t,ln,md,out,main⟩ (cT "case" (bz .none aP ov) (.str "test") .none a j []))) false) a j aP (fun a j tv=>FF (.list pre [.loc 9,.loc (15+1)]) .none ⟨aa,t+1,ln,md,out,main⟩ (cA "case" (bz .none aP ov) (.str "test") .none a j []++[.list [] [tv],bx "values" (.loc 14) (.int 0) (.loc (15+2)),.inst 463 15,.list [] []])):=by
 ac_rfl
theorem NW(a j:Nat):kM (ah (bT p wo K n k (FF (.list pre [.loc 9]) (aC "value" (.lst [V.none,V.none,V.none])) ⟨aa,t,ln,md,out,main⟩ (cT "case" (bz .none aP ov) (.str "test") .none a j []))) false) ((2:Nat)≤500∧(4:Nat)≤500∧(4:Nat)≤500∧(3:Nat)≤400∧(3:Nat)≤500∧(2:Nat)≤400∧(2:Nat)≤500∧(1:Nat)≤400∧(1:Nat)≤500∧aP.length+1≤500∧True) (decide ((a:Int)<Int.ofNat aP.length)):=by
 exact⟨⋯,⋯,⋯⟩
theorem Ku{aP:List V}(h:aP.length+1≤500):(2:Nat)≤500∧(4:Nat)≤500∧(4:Nat)≤500∧(3:Nat)≤400∧(3:Nat)≤500∧(2:Nat)≤400∧(2:Nat)≤500∧(1:Nat)≤400∧(1:Nat)≤500∧aP.length+1≤500∧True:=by trivial
theorem NX(a j:Nat):∀ts b,iz (ah (ah (ah (bE (ah (ah (bT p wo K n k (FF (.list pre [.loc 9]) (aC "value" (.lst [V.none,V.none,V.none])) ⟨aa,t,ln,md,out,main⟩ (cT "case" (bz .none aP .none) (.str "test") .none a j []))) false) true) (dg ts b)) true) false) true) True (FF (.list pre []) (.loc 15) ⟨aa,t+1,ln,md,out,main⟩ (cA "case" (bz .none aP .none) (.str "test") .none ((a:Int)+1) 0 []++[dZ "value" .none,.inst 441 14])):=by
 exact(fun _ _=>⟨⋯,⋯,⋯,⋯,⋯⟩)
theorem NY(a j:Nat):∀ts b,iz (ah (ah (ah (bE (ah (ah (bT p wo K n k (FF (.list pre [.loc 9]) (aC "value" (.lst [V.none,V.none,V.none])) ⟨aa,t,ln,md,out,main⟩ (cT "case" (bz .none aP (aj ko po)) (.str "test") .none a j []))) false) true) (dg ts b)) true) false) true) ((2:Nat)≤500∧True) (FF (.list pre [.loc 9,.loc (14+1)]) .none ⟨aa,t+1,ln,md,out,main⟩ (cA "case" (bz .none aP (aj ko po)) (.str "end") .none ((a:Int)+1) 0 []++[bx ko (aj ko po) (.int 0) (.loc (14+2)),.inst 463 14,.list [] []])):=by
 exact(fun _ _=>⟨⋯,⋯,⋯,⋯,⋯⟩)
end
def Runs(cx:Cx)(L:Lp)(B:Bs)(pre:LV)(F:Ws→St)(R:Rd)(c:Nat):Prop:=∀N w,aW c R.1.length w→(∀u w',bO R c w u w'→At cx L 8 B (FF (.list pre []) u w' []) N)→At cx L 8 B (F w) (N+c)
theorem Runs.le(h:Runs cx L B pre F R c)(hc:c≤c'):Runs cx L B pre F R c':=fun N w ok hh=>
 At.le (N:=N+c) (by exact qu ‹_› _) (h N w (ok.le hc (qf _)) fun u w' en=>hh u w' ⟨en.way,en.aa,by have:=en.t;lia,en.md⟩)
def gJ(cx:Cx)(L:Lp)(hg c d:Nat):Prop:=∀t:Tree d,Tree.ok d t→∃kb pb,Tree.node d t=aj kb pb∧iO cx L hg c kb (aj kb pb) (Tree.rd d t)
theorem bO.tick{aa:List V}{t ln:Int}{md:ai}{out main:Value}{u:V}{w':Ws}(e:bO R c ⟨aa,t+1,ln,md,out,main⟩ u w'):bO R (c+1) ⟨aa,t,ln,md,out,main⟩ u w':=
 ⟨e.way,e.aa,by have h:w'.t≤t+1+(c:Nat):=e.t;show w'.t≤t+((c+1:Nat):Int);lia,e.md⟩
theorem aW.fK{aa:List V}{t ln:Int}{md:ai}{out main:Value}(o:aW (c+1) m ⟨aa,t,ln,md,out,main⟩):aW c m ⟨aa,t+1,ln,md,out,main⟩:=o.tick
section
variable{K:Frag}
theorem Xe(rl:bK L k)(hX:∀b,aF L.env b→B.X b)(ok:aW 1 0 w)
  (h:∀u w',bO ([],.val x) 1 w u w'→At (az p wo K n) L 8 B (FF (.list pre []) u w' []) N):At (az p wo K n) L 8 B (FF (.list pre [.loc 9]) (aC "value" x.v) w (cT "case" (bz sv aP ov) (.str "end") ay a j vs)) (N+1):=by
 have ot:=ok.t;refine fR [] [.ok cZ ((.next,cH),FF (.list pre []) (.loc 14) {w with t:=w.t+1} (cT "case" (bz sv aP ov) (.str "end") ay a j vs++[dZ "value" x.v,.inst 441 13]))] rl hX (by assumption) (.ok bq ?_) (by induction x using Val.casesOn<;>kernel_rfl)
 refine fj (w:={w with t:=w.t+1}) (bh:=aC "value" x.v) (zs:=[14,13]) rfl (fun σ _=>eN (j:=14) (d:=13) (v:=x.v) (by exact ms) (by exact kI) rfl rfl (.closed (bN x))) ok.aa ok.md.closed (h _ _ ⟨rfl, ?_, ?_,.inl ok.md⟩)
 ·show w.aa=w.aa++[];exact(List.append_nil _).symm
 ·show w.t+1≤w.t+(1:Nat);simp
theorem Qv(rl:bK L k)(hX:∀b,aF L.env b→B.X b)(ok:aW (cb+1) R.1.length w0)
  (h:∀u w',bO R (cb+1) w0 u w'→At (az p wo K n) L 8 B (FF (.list pre []) u w' []) N):
  ∀bh w',bO R cb w0 bh w'→At (az p wo K n) L 8 B (FF (.list pre [.loc 9]) bh w' (cT "case" (bz sv aP ov) (.str "end") ay a j vs)) (N+1):=by
 intro bh w' en;have et:=en.t;have cl:=en.cl ok.aa;obtain⟨m1,w1⟩:=R;induction w1 using bu.casesOn with
 |raise z=>
  obtain⟨e,ce,ze,rfl⟩:=en.way;exact dI rl hX cl.1 cl.2 (h _ _ ⟨⟨e,ce,ze,rfl⟩,en.aa,by push_cast;lia,en.md⟩)
 |val x=>
  have hw:bh=aC "value" x.v:=en.way;subst hw;have fS:aW 1 0 w':=en.ok (c':=1) (m:=0) ok;refine Xe rl hX fS fun u w2 cj=>h _ _ ⟨cj.way, ?_, ?_,cj.md⟩
  ·rw[cj.aa,en.aa];exact List.append_nil _
  ·have:=cj.t;push_cast at this⊢;lia
theorem iZ{pb:V}{R:Rd}{sv ov:V}{aP:List V}{ay:Val}{a j:Int}{xs:List Val}(rl:bK L k)(hX:∀b,aF L.env b→B.X b)(hp:pre.length+hb+1≤1000)
  (ev:iO (az p wo K n) L hb cb kb (aj kb pb) R)(ok:aW (cb+1) R.1.length w)(hz:tS ((8::9::tr)++[d,d+1,d+2]) []=true)(CV:tr.length=3)
  (hT:∀σ,uB (gC ((8::9::tr)++[d,d+1,d+2])) (· ∈[]) σ (FF (.list pre [.loc 9,.loc (d+1)]) .none w X) (8::9::tr) (cT "case" (bz sv aP ov) (.str "end") ay a j (xs.map Val.v)))
  (e0:(FF (.list pre [.loc 9,.loc (d+1)]) .none w X)[d]? =some (bx kb (aj kb pb) (.int 0) (.loc (d+2))))(e1:(FF (.list pre [.loc 9,.loc (d+1)]) .none w X)[d+1]? =some (.inst 463 d))(e2:(FF (.list pre [.loc 9,.loc (d+1)]) .none w X)[d+2]? =some (.list [] []))
  (h:∀u w',bO R (cb+1) w u w'→At (az p wo K n) L 8 B (FF (.list pre []) u w' []) N):fZ (az p wo K n) L B (N+1+cb) (FF (.list pre [.loc 9,.loc (d+1)]) .none w X):=
 gA (N:=N+1) (c:=cb) (T:=cT "case" (bz sv aP ov) (.str "end") ay a j (xs.map Val.v)) (node2:=aj kb pb) (tr:=tr) (zs:=[]) (d:=d) rl ev hX hp (ok.le (by exact pS) (qf _)) rfl hz (fun σ _=>hT σ) e0 e1 e2 (fun σ _=>.closed rfl) (nU rfl) (by rw[CV];rfl) (Qv rl hX ok h)
theorem nu{t:aB}{sv ov:V}{aP:List V}{ay:Val}{a j:Int}(rl:bK L k)(hn:0<n)(hX:∀b,aF L.env b→B.X b)(hp:pre.length+4≤1000)
  (gu:t.ok)(ok:aW 11 t.rd.1.length w)(hz:tS ((8::9::tr)++[d,d+1,d+2]) [d-1]=true)(CV:tr.length=3)
  (hT:∀σ,uB (gC ((8::9::tr)++[d,d+1,d+2])) (· ∈[d-1]) σ (FF (.list pre [.loc 9,.loc (d+1)]) .none w X) (8::9::tr) (cT "case" (bz sv aP ov) (.str "test") ay a j []))
  (e0:(FF (.list pre [.loc 9,.loc (d+1)]) .none w X)[d]? =some (bx "values" (.loc (d-1)) (.int 0) (.loc (d+2))))(e1:(FF (.list pre [.loc 9,.loc (d+1)]) .none w X)[d+1]? =some (.inst 463 d))(e2:(FF (.list pre [.loc 9,.loc (d+1)]) .none w X)[d+2]? =some (.list [] []))
  (e3:(FF (.list pre [.loc 9,.loc (d+1)]) .none w X)[d-1]? =some (.list [] [t.node]))
  (h:∀u w',iy (su t.rd.2) t.rd.1 11 w u w'→At (az p wo K n) L 8 B (FF (.list pre [.loc 9]) u w' (cT "case" (bz sv aP ov) (.str "test") ay a j [])) N):fZ (az p wo K n) L B (N+11) (FF (.list pre [.loc 9,.loc (d+1)]) .none w X):=
 zE (N:=N) (c:=11) (T:=cT "case" (bz sv aP ov) (.str "test") ay a j []) (node:=.lst [t.node]) (node2:=.loc (d-1)) (tr:=tr) (zs:=[d-1]) (d:=d) rl (UE rl hn gu w ok) hX hp ok.aa ok.md.closed rfl hz (fun σ _=>hT σ) e0 e1 e2
  (fun σ _=>.lst (by exact ms) e3 (.cons (.closed (r8 t)) .nil)) (nU (xs:=[]) rfl) (by rw[CV];rfl) h
noncomputable def tl{α:Type}:List (List aB×α)→Nat
 |[]=>0
 |w::ws=>w.1.length+tl ws
noncomputable def CA(c nv left:Nat):Nat:=2*nv+18*left+(c+4)
noncomputable def oi(pre:LV)(node:V)(ay:Val)(a j:Nat)(vs:List Val)(w:Ws):St:=FF (.list pre [.loc 9]) (aC "value" (.lst (vs.map Val.v))) w (cT "case" node (.str "test") ay a j [])
theorem Kv(rl:bK L k)(hX:∀b,aF L.env b→B.X b)(gu:t.ok)
  (hA:∀vs,vs.length≤3→(∀x∈vs,x.ok)→t.rd.2=.vals vs→Runs (az p wo K n) L B pre (oi pre (bz sv aP ov) ay a j vs) (c8 (Tree.rd d) sj o body rest ts vs) (CA c vs.length left))
  (ok:aW (11+CA c 3 left) (fQ (Tree.rd d) sj o body rest (t::ts)).1.length w0)
  (h:∀u w',bO (fQ (Tree.rd d) sj o body rest (t::ts)) (11+CA c 3 left) w0 u w'→At (az p wo K n) L 8 B (FF (.list pre []) u w' []) N):
  ∀u w',iy (su t.rd.2) t.rd.1 11 w0 u w'→At (az p wo K n) L 8 B (FF (.list pre [.loc 9]) u w' (cT "case" (bz sv aP ov) (.str "test") ay a j [])) (N+CA c 3 left):=by
 intro u w' en;have et:=en.t;have cl:=en.cl ok.aa;have jM:=en.aa;have hw:=en.way;rw[qX]at ok h;have tv:=(HS gu);have c1:1≤CA c 3 left:=by unfold CA;exact rB
 induction hr:t.rd using qn with
 |mk m wd=>
  rw[hr]at ok h jM hw;induction wd using dK.casesOn with
  |raise z=>
   obtain⟨e,ce,ze,rfl⟩:=hw;refine At.le (N:=N+1) (by exact qu ‹_› _) (dI rl hX cl.1 cl.2 (h _ _ ⟨⟨e,ce,ze,rfl⟩,jM,by push_cast;lia,.inr ⟨cl.2,_,rfl⟩⟩))
  |vals vs=>
   have hw:u=aC "value" (.lst (vs.map Val.v)):=hw;subst hw;have V9:=tv vs (by rw[hr]);have le:CA c vs.length left≤CA c 3 left:=by unfold CA;lia
   have fS:aW (CA c vs.length left) (c8 (Tree.rd d) sj o body rest ts vs).1.length w':=en.mu (ok.le (by exact qu ‹_› _) (by rw[hr];show _≤(m++_).length;rw[List.length_append];exact qf _));refine At.le (N:=N+CA c vs.length left) (by exact qu ‹_› _) (hA vs V9.1 V9.2 (by rw[hr]) N w' fS fun u w2 cj=>h _ _ ⟨cj.way, ?_, ?_,cj.md⟩)
   ·rw[cj.aa,jM];show _=_++(m++_).map Mark.v;simp
   ·have:=cj.t;push_cast at this⊢;lia
end
section
variable{K:Frag}
theorem Xf{ps ov:V}{d hg c a:Nat}{j:Int}{ws:List (List aB×Tree d)}{aS:List aB}{body:Tree d}{x y:Val}{xs:List Val}(rl:bK L k)(hX:∀b,aF L.env b→B.X b)(hp:pre.length+hg+2≤1000)
  (HB:gJ (az p wo K n) L hg c d)(eL:Tree.ok d body)(hl:ws.length≤3)(ea:ws[a]? =some (aS,body))(hy:y.holds=true):
  Runs (az p wo K n) L B pre (fun w=>FF (.list pre [.loc 9]) (aC "value" y.v) w (cT "case" (bz (aj ks ps) (ws.map (bI (Tree.node d))) ov) (.str "asked") x (a:Int) j (xs.map Val.v))) (Tree.rd d body) (c+4):=by
 intro N w ok h;obtain⟨aa,t,ln,md,out,main⟩:=w;have ot:t+((c+4:Nat):Int)≤20000:=ok.t;obtain⟨kb,pb,en,eb⟩:=HB body eL;refine At.le (N:=(N+1+(c+2))+1) (by lia) ?_;refine ck rl hX (by rw[bU];exact fG) ?_;have ev:(ws.map (bI (Tree.node d)))[a]? =some (dg (aS.map aB.node) (kF (aj kb pb))):=by rw[List.getElem?_map,ea,←en];rfl
 have fin:fZ (az p wo K n) L B (N+1+(c+2)) (FF (.list pre [.loc 9,.loc (13+1)]) .none ⟨aa,t+1,ln,md,out,main⟩ (cT "case" (bz (aj ks ps) (ws.map (bI (Tree.node d))) ov) (.str "end") x (a:Int) j (xs.map Val.v)++[bx "seq" (kF (aj kb pb)) (.int 0) (.loc (13+2)),.inst 463 13,.list [] []])):=by
  refine iZ (tr:=[10,11,12]) (d:=13) (kb:="seq") (R:=Tree.rd d body) rl hX (hb:=hg+1) (by assumption) (AR rl eb) (ok.le (by exact iR) (qf _)).fK rfl rfl (fun σ=>nV rfl rfl rfl rfl rfl rfl bY) rfl rfl rfl fun u w' e=>h u w' ?_;have:=e.tick;exact⟨this.way,this.aa,by have:=this.t;push_cast at this⊢;assumption,this.md⟩
 induction y using Val.casesOn with
 |none=>exact ft hy
 |int i=>
  refine cy (t:=t) ⋯ (nd (p:=cZ) ⋯ bq) ⋯ (by lia) ?_;refine g9 _ (a:Int) a _ ⋯ (nd (p:=cZ) ⋯ bq) rfl ev (by rw[List.length_map];lia) ?_;exact bC (p:=(2:Nat)≤500∧True) ⟨⋯,⋯,⋯,⋯,⋯⟩ dJ fin
 |bool b=>
  induction b using qd with
  |false=>exact ft hy
  |true=>
   refine cy (t:=t) ⋯ (nd (p:=cZ) ⋯ bq) ⋯ (by lia) ?_;refine g9 _ (a:Int) a _ ⋯ (nd (p:=cZ) ⋯ bq) rfl ev (by rw[List.length_map];lia) ?_;exact bC (p:=(2:Nat)≤500∧True) ⟨⋯,⋯,⋯,⋯,⋯⟩ dJ fin
theorem FZ{y:Val}(h:y.holds=false):∃f,y.v=lD f:=by
 induction y using Val.casesOn with
 |none=>exact⟨false,rfl⟩
 |int i=>exact tf h
 |bool b=>induction b using qd with
  |false=>exact⟨true,rfl⟩
  |true=>exact tf h
noncomputable def F0(pre:LV)(node:V)(ay:Val)(a j:Nat)(f:Bool)(vs:List Val)(w:Ws):St:=FF (.list pre [.loc 9]) (aC "value" (lD f)) w (cT "case" node (.str "asked") ay a j (vs.map Val.v))
theorem A3{ps ov:V}{d hg c a j left:Nat}{ws:List (List aB×Tree d)}{aS:List aB}{o:Option (Tree d)}{body:Tree d}{rest:List (List aB×Tree d)}{ts:List aB}{x v:Val}{vs:List Val}(rl:bK L k)(hX:∀b,aF L.env b→B.X b)(hp:pre.length+hg+2≤1000)
  (HB:gJ (az p wo K n) L hg c d)(eL:Tree.ok d body)(hl:ws.length≤3)(ea:ws[a]? =some (aS,body))
  (hB:∀f,Runs (az p wo K n) L B pre (F0 pre (bz (aj ks ps) (ws.map (bI (Tree.node d))) ov) x a j f vs) (c8 (Tree.rd d) (some x) o body rest ts vs) (CA c vs.length left))
  (ok:aW (1+CA c vs.length left) (c8 (Tree.rd d) (some x) o body rest ts (v::vs)).1.length w0)
  (h:∀u w',bO (c8 (Tree.rd d) (some x) o body rest ts (v::vs)) (1+CA c vs.length left) w0 u w'→At (az p wo K n) L 8 B (FF (.list pre []) u w' []) N):
  ∀u w',bO (oO v x) 1 w0 u w'→At (az p wo K n) L 8 B (FF (.list pre [.loc 9]) u w' (cT "case" (bz (aj ks ps) (ws.map (bI (Tree.node d))) ov) (.str "asked") x a j (vs.map Val.v))) (N+CA c vs.length left):=by
 intro u w' en;have et:=en.t;have cl:=en.cl ok.aa;have jM:=en.aa;have hw:oZ (cN v x) u:=en.way;have c1:c+4≤CA c vs.length left:=by unfold CA;exact fG
 rw[lR]at ok h;have hs:wO (some x) v=([Mark.asked v x],cN v x):=rfl;rw[hs]at ok h;induction hr:cN v x using bu.casesOn with
 |raise z=>
  rw[hr]at ok h hw;obtain⟨e,ce,ze,rfl⟩:=hw;exact At.le (N:=N+1) (by lia) (dI rl hX cl.1 cl.2 (h _ _ ⟨⟨e,ce,ze,rfl⟩,jM,by push_cast;lia,en.md⟩))
 |val y=>
  rw[hr]at ok h hw;have hw:u=aC "value" y.v:=hw;subst hw;dsimp only at ok h;by_cases hy:y.holds=true
  ·rw[if_pos hy]at ok h;have fS:aW (CA c vs.length left) (Tree.rd d body).1.length w':=en.ok (ok.le (qf _) (by show 1+_≤([_]++_).length;simp;lia));refine At.le (N:=N+(c+4)) (by exact qu ‹_› _) (Xf rl hX hp HB eL hl ea hy N w' (fS.le c1 (qf _)) fun u w2 cj=>h _ _ ⟨cj.way, ?_, ?_,cj.md⟩)
   ·rw[cj.aa,jM];simp[Mine.Internal.after,oO]
   ·have:=cj.t;push_cast at this⊢;lia
  ·rw[if_neg hy]at ok h;have hy:y.holds=false:=by simpa using hy
   obtain⟨f,ef⟩:=FZ hy;have fS:aW (CA c vs.length left) (c8 (Tree.rd d) (some x) o body rest ts vs).1.length w':=en.ok (ok.le (qf _) (by show 1+_≤([_]++_).length;simp;lia));have key:=hB f N w' fS fun u w2 cj=>h _ _ ⟨cj.way,by rw[cj.aa,jM];simp[Mine.Internal.after,oO],by have:=cj.t;push_cast at this⊢;lia,cj.md⟩;unfold F0 at key;rw[ef];exact key
end
theorem Gd.mono{S:Spec}{pre:Nat→Addr→List V→St→Prop}{α:Type}{r:aA α}{Q Q':α→Prop}(h:∀a,Q a→Q' a)(g:Gd S pre r Q):Gd S pre r Q':=⟨Good.mono h g.out⟩
theorem bO.up(e:bO R c w0 u w')(h:c≤c'):bO R c' w0 u w':=⟨e.way,e.aa,by have:=e.t;lia,e.md⟩
section
variable{K:Frag}
theorem ny(hz:tS [] [e+1,e]=true)(ok:aW c 0 w)(e0:(FF (.list pre []) (.loc (e+1)) w X)[e+1]? =some (.inst 441 e))(e1:(FF (.list pre []) (.loc (e+1)) w X)[e]? =some (dZ "value" .none))
  (h:∀u w',bO ([],.val .none) c w u w'→At (az p wo K n) L 8 B (FF (.list pre []) u w' []) N):fZ (az p wo K n) L B N (FF (.list pre []) (.loc (e+1)) w X):=by
 refine fj (bh:=aC "value" .none) (zs:=[e+1,e]) hz (fun σ _=>eN (j:=e+1) (d:=e) (v:=.none) (by exact ms) (by exact kI) e0 e1 (.closed rfl)) ok.aa ok.md.closed (h _ _ ⟨rfl, ?_, ?_,.inl ok.md⟩)
 ·show w.aa=w.aa++[];exact(List.append_nil _).symm
 ·lia
theorem fZ.le{st:St}{N N':Nat}(h:N≤N')(q:fZ cx L B N st):fZ cx L B N' st:=fun σ hs=>by
 obtain⟨aD,z,st',f,a⟩:=q σ hs;exact⟨aD,z,st',f,At.le h a⟩
theorem ju.le(h:N≤N')(t:ju cx L B N q):ju cx L B N' q:=⟨t.1,t.2.1,t.2.2.le h⟩
def Val.nb:Val→Prop
 |.bool _=>False
 |_=>True
theorem UI{l:aH}(h:l.rd=(m,.val x)):x.nb:=by
 induction l using aH.casesOn with
 |gX i=>injection h with _ h;injection h
 |_=>injection h with _ h;injection h with h;exact h▸trivial
theorem F1{ls:List aH}:∀{vs:List Val},(bZ ls).2=.vals vs→∀v∈vs,v.nb:=by
 induction ls with
 |nil=>intro vs h v hv;injection h with h;rw[←h]at hv;cases hv
 |cons l ls ih=>
  intro vs h v hv;obtain⟨m,x,ys,hr,hq,e⟩:=AZ h;rw[e]at hv;rcases List.mem_cons.mp hv with q|q
  ·exact q▸UI hr
  ·exact ih hq v q
theorem UJ{t:aB}(h:t.rd.2=.vals vs):∀v∈vs,v.nb:=by
 induction t using aB.casesOn with
 |leaf l=>exact F1 (ls:=[l]) h
 |iM ls=>exact F1 h
 |jb l=>
  induction hr:l.rd using qn with
  |mk m w=>
   induction w using bu.casesOn with
   |raise z=>simp[aB.rd,hr]at h
   |val y=>
    rw[aB.rd,hr]at h;injection h with h;subst h;intro v hv;induction l using aH.casesOn with
    |int i=>cases hr;simp at hv;subst hv;trivial
    |nil=>cases hr;cases hv
    |gX i=>cases hr
theorem nA{ay:Val}{d c a j:Nat}{ws:List (List aB×Tree d)}{o:Option (Tree d)}{aS:List aB}{body:Tree d}{rest:List (List aB×Tree d)}{r:aA cC}{sT:Int→Int→V→St}{p1:Prop}{w1:Ws}(rl:bK L k)(hX:∀b,aF L.env b→B.X b)
  (A:Ask r a j (ws.map (bI (Tree.node d))) sT)(F:kM r p1 (decide ((a:Int)<Int.ofNat (ws.map (bI (Tree.node d))).length)))(C9:p1)
  (hl:ws.length≤3)(bX:gO ws)(ha:ws.drop a=(aS,body)::rest)(hj:j≤aS.length)
  (IH:∀(a' j':Nat) (cg:List aB) (gy:Tree d) (bf:List (List aB×Tree d)) (eg:List Val),(cg.drop j').length+tl bf<(aS.drop j).length+tl rest→ws.drop a'=(cg,gy)::bf→j'≤cg.length→eg.length≤3→(∀v∈eg,v.ok)→(∀v∈eg,v.nb)→
   Runs (az p wo K n) L B pre (oi pre (bz sv (ws.map (bI (Tree.node d))) ov) ay a' j' eg) (c8 (Tree.rd d) sj o gy bf (cg.drop j') eg) (CA c eg.length ((cg.drop j').length+tl bf)))
  (HT:∀(a' j':Nat) (t:aB) (N':Nat),t.ok→aW 11 t.rd.1.length w1→(∀u w',iy (su t.rd.2) t.rd.1 11 w1 u w'→At (az p wo K n) L 8 B (FF (.list pre [.loc 9]) u w' (cT "case" (bz sv (ws.map (bI (Tree.node d))) ov) (.str "test") ay a' j' [])) N')→fZ (az p wo K n) L B (N'+11) (sT a' j' t.node))
  (HO:aS.drop j=[]→∀ts b,aW (c+1) (lM (Tree.rd d) (.val .none) o).1.length w1→(∀u w',bO (lM (Tree.rd d) (.val .none) o) (c+1) w1 u w'→At (az p wo K n) L 8 B (FF (.list pre []) u w' []) N)→Gd (dS n) aI (ah (ah (ah (bE (ah r true) (dg ts b)) true) false) true) (ju (az p wo K n) L B (N+(c+1))))
  (ok:aW (18*((aS.drop j).length+tl rest)+(c+3)) (fQ (Tree.rd d) sj o body rest (aS.drop j)).1.length w1)
  (h:∀u w',bO (fQ (Tree.rd d) sj o body rest (aS.drop j)) (18*((aS.drop j).length+tl rest)+(c+3)) w1 u w'→At (az p wo K n) L 8 B (FF (.list pre []) u w' []) N):
  Gd (dS n) aI r (ju (az p wo K n) L B (N+(18*((aS.drop j).length+tl rest)+(c+3)))):=by
 have Zr:∀{a':Nat} {cg:List aB} {b':Tree d} {bf:List (List aB×Tree d)},ws.drop a'=(cg,b')::bf→∀t∈cg,t.ok:=fun{a' cg b' bf} e t ht=>by
  have e2:ws[a']? =some (cg,b'):=by
   have:=congrArg (·[0]?) e
   simpa using this
  exact(bX _ (qC e2)).1.2 t ht
 have next:∀{a' j':Nat} {cg:List aB} {b':Tree d} {bf:List (List aB×Tree d)} {t:aB} {ts:List aB},ws.drop a'=(cg,b')::bf→cg.drop j'=t::ts→fQ (Tree.rd d) sj o body rest (aS.drop j)=fQ (Tree.rd d) sj o b' bf (t::ts)→ts.length+1+tl bf=(aS.drop j).length+tl rest→
   fZ (az p wo K n) L B (N+(18*((aS.drop j).length+tl rest)+(c+3))) (sT (a':Int) ((j'+1:Nat):Int) t.node):=fun{a' j' cg b' bf t ts} e e2 e3 e4=>by
  have ht:t.ok:=Zr e t (List.mem_of_mem_drop (by rw[e2];exact qi));have e5:cg.drop (j'+1)=ts:=by rw[←List.drop_drop,e2];rfl
  have lj:j'<cg.length:=by
   have:=congrArg List.length e2;simp at this;lia
  have cost:18*((aS.drop j).length+tl rest)+(c+3)=11+CA c 3 (ts.length+tl bf):=by unfold CA;lia
  rw[e3,cost]at h ok;rw[cost];have lt:t.rd.1.length≤(fQ (Tree.rd d) sj o b' bf (t::ts)).1.length:=by
   rw[qX];induction t.rd using qn with
   |mk m wd=>induction wd using dK.casesOn with
    |raise z=>exact qf _
    |vals vs=>simp[Mine.Internal.after]
  have:=HT a' (j'+1) t (N+CA c 3 (ts.length+tl bf)) ht (ok.le (by exact mh) lt) (Kv rl hX ht (fun vs h1 h2 h3=>by
   have:=IH a' (j'+1) cg b' bf vs (by rw[e5];lia) e (by assumption) h1 h2 (UJ h3);rw[e5]at this;exact this) ok h)
  exact this.le (by lia)
 refine Xd A F C9 hl (fun w hw=>(bX w hw).1.1) ha hj (fun t ts e=>next ha e (by rw[e]) (by rw[e];rfl)) (fun e yS b1 A0 t ts e2 e3=> ?_) fun e e2 ts b=> ?_
 ·subst e2 e3;have uE:ws.drop (a+1)=(t::ts,b1)::A0:=by rw[←List.drop_drop,ha];rfl
  exact next (j':=0) uE rfl (by rw[e];rfl) (by rw[e];simp[tl])
 ·subst e2;have e3:fQ (Tree.rd d) sj o body [] (aS.drop j)=lM (Tree.rd d) (.val .none) o:=by rw[e];rfl
  rw[e3]at h ok;exact(HO e ts b (ok.le (by lia) (qf _)) fun u w' en=>h u w' (en.up (by lia))).mono fun q tq=>tq.le (by lia)
end
def ie(cx:Cx)(L:Lp)(hg c d:Nat)(o:Option (Tree d))(ov:V):Prop:=(o=none∧ov=.none)∨∃(t:Tree d) (ko:Str) (po:V),o=some t∧ov=aj ko po∧iO cx L hg c ko (aj ko po) (Tree.rd d t)
section
variable{K:Frag}
theorem A4:(oO v x).1.length≤(c8 (Tree.rd d) (some x) o body rest ts (v::vs)).1.length:=by
 rw[lR,show wO (some x) v=([Mark.asked v x],cN v x)from rfl];induction cN v x using bu.casesOn with
 |raise z=>exact qf _
 |val y=>
  dsimp only;by_cases hy:y.holds=true
  ·rw[if_pos hy];exact rB
  ·rw[if_neg hy];exact rB
section
variable{ws:List (List aB×Tree d)}{o:Option (Tree d)}{ov:V}{x v:Val}{vs:List Val}{aS ts:List aB}{body:Tree d}{rest:List (List aB×Tree d)}
theorem Zs(rl:bK L k)(hn:0<n)(hX:∀b,aF L.env b→B.X b)(eT:2≤hg)(hp:pre.length+hg+2≤1000)(HB:gJ (az p wo K n) L hg c d)(eL:Tree.ok d body)(hl:ws.length≤3)(ea:ws[a]? =some (aS,body))(fC:x.ok)(uz:v.ok)(hv:vs.length≤3)
  (hB:∀f,Runs (az p wo K n) L B pre (F0 pre (bz (aj ks ps) (ws.map (bI (Tree.node d))) ov) x a j f vs) (c8 (Tree.rd d) (some x) o body rest ts vs) (CA c vs.length left)):
  Runs (az p wo K n) L B pre (oi pre (bz (aj ks ps) (ws.map (bI (Tree.node d))) ov) x a j (v::vs)) (c8 (Tree.rd d) (some x) o body rest ts (v::vs)) (1+CA c vs.length left+1):=by
 intro N w ok h;have lw:(ws.map (bI (Tree.node d))).length+1≤500:=by rw[List.length_map];lia
 obtain⟨aa,t,ln,md,out,main⟩:=w;have ot:t+((1+CA c vs.length left+1:Nat):Int)≤20000:=ok.t;refine At.le (N:=(N+CA c vs.length left+1)+1) (by lia) ?_;refine ck rl hX (by show 8≤(FF _ _ _ _).length;rw[bU];exact fG) ?_;refine cy (t:=t) ⋯ (nd (p:=([V.loc 9]:List V).length+1≤500∧True) ⋯ bq) ⋯ (by lia) ?_;refine bC (p:=(2:Nat)≤500∧(vs.map Val.v).length+1+1≤500∧(vs.map Val.v).length+1+1≤500∧(vs.map Val.v).length+1≤400∧(2:Nat)≤500∧True)
  (st:=FF (.list pre [.loc 9,.loc (15+1)]) .none ⟨aa,t+1,ln,md,out,main⟩ (cA "case" (bz (aj ks ps) (ws.map (bI (Tree.node d))) ov) (.str "asked") x (a:Int) (j:Int) (vs.map Val.v)++[.list [] [x.v],bx "sending" (.tup [v.v,.str "===",.loc 14,.none,.str "call"]) (.int 0) (.loc (15+2)),.inst 463 15,.list [] []]))
  (by induction x using Val.casesOn<;>induction v using Val.casesOn<;>exact⟨⋯,⋯,⋯,⋯,⋯⟩) (by simp;lia) ?_
 refine gA (N:=N+CA c vs.length left) (c:=1) (T:=cT "case" (bz (aj ks ps) (ws.map (bI (Tree.node d))) ov) (.str "asked") x (a:Int) (j:Int) (vs.map Val.v)) (node:=vf v x) (node2:=.tup [v.v,.str "===",.loc 14,.none,.str "call"]) (tr:=[10,11,13]) (zs:=[14]) (d:=15) rl (vg rl hn uz fC) hX (by lia) ((ok.le (by exact qo rfl) A4).fK) (se v x) rfl
  (fun σ _=>je rfl rfl rfl rfl rfl rfl bY) rfl rfl rfl (fun σ _=>.tup (.cons (.closed (bN v)) (.cons (.closed rfl) (.cons (.lst (by exact ms) rfl (.cons (.closed (bN x)) .nil)) (.cons (.closed rfl) (.cons (.closed rfl) .nil)))))) (nU rfl) rfl ?_
 exact A3 rl hX hp HB eL hl ea hB ok.fK fun u w' e=>h u w' e.tick
theorem Zt(rl:bK L k)(hn:0<n)(hX:∀b,aF L.env b→B.X b)(eT:2≤hg)(hp:pre.length+hg+2≤1000)(HB:gJ (az p wo K n) L hg c d)(eL:Tree.ok d body)(hl:ws.length≤3)(ea:ws[a]? =some (aS,body))(fC:x.ok)(uz:v.ok)(hv:vs.length≤3)
  (hB:∀f,Runs (az p wo K n) L B pre (F0 pre (bz (aj ks ps) (ws.map (bI (Tree.node d))) ov) x a j f vs) (c8 (Tree.rd d) (some x) o body rest ts vs) (CA c vs.length left))(f:Bool):
  Runs (az p wo K n) L B pre (F0 pre (bz (aj ks ps) (ws.map (bI (Tree.node d))) ov) x a j f (v::vs)) (c8 (Tree.rd d) (some x) o body rest ts (v::vs)) (1+CA c vs.length left+1):=by
 intro N w ok h;have lw:(ws.map (bI (Tree.node d))).length+1≤500:=by rw[List.length_map];lia
 obtain⟨aa,t,ln,md,out,main⟩:=w;have ot:t+((1+CA c vs.length left+1:Nat):Int)≤20000:=ok.t;refine At.le (N:=(N+CA c vs.length left+1)+1) (by lia) ?_;refine ck rl hX (by show 8≤(FF _ _ _ _).length;rw[bU];exact fG) ?_;refine cy (t:=t) (by induction f using qd<;>kernel_rfl) (nd (p:=([V.loc 9]:List V).length+1≤500∧True) (by induction f using qd<;>kernel_rfl) bq) (by induction f using qd<;>kernel_rfl) (by lia) ?_
 refine bC (p:=(2:Nat)≤500∧(vs.map Val.v).length+1+1≤500∧(vs.map Val.v).length+1≤400∧(2:Nat)≤500∧True)
  (st:=FF (.list pre [.loc 9,.loc (14+1)]) .none ⟨aa,t+1,ln,md,out,main⟩ (cT "case" (bz (aj ks ps) (ws.map (bI (Tree.node d))) ov) (.str "asked") x (a:Int) (j:Int) (vs.map Val.v)++[.list [] [x.v],bx "sending" (.tup [v.v,.str "===",.loc 13,.none,.str "call"]) (.int 0) (.loc (14+2)),.inst 463 14,.list [] []]))
  (by induction f using qd<;>induction x using Val.casesOn<;>induction v using Val.casesOn<;>exact⟨⋯,⋯,⋯,⋯,⋯⟩) (by simp;lia) ?_
 refine gA (N:=N+CA c vs.length left) (c:=1) (T:=cT "case" (bz (aj ks ps) (ws.map (bI (Tree.node d))) ov) (.str "asked") x (a:Int) (j:Int) (vs.map Val.v)) (node:=vf v x) (node2:=.tup [v.v,.str "===",.loc 13,.none,.str "call"]) (tr:=[10,11,12]) (zs:=[13]) (d:=14) rl (vg rl hn uz fC) hX (by lia) ((ok.le (by lia) A4).fK) (se v x) rfl
  (fun σ _=>nV rfl rfl rfl rfl rfl rfl bY) rfl rfl rfl (fun σ _=>.tup (.cons (.closed (bN v)) (.cons (.closed rfl) (.cons (.lst (by exact ms) rfl (.cons (.closed (bN x)) .nil)) (.cons (.closed rfl) (.cons (.closed rfl) .nil)))))) (nU rfl) rfl ?_
 exact A3 rl hX hp HB eL hl ea hB ok.fK fun u w' e=>h u w' e.tick
def Kw(cx:Cx)(L:Lp)(B:Bs)(pre:LV)(cv:V)(x:Val)(c:Nat){d:Nat}(ws:List (List aB×Tree d))(o:Option (Tree d))(m:Nat):Prop:=∀(a j:Nat) (ts:List aB) (body:Tree d) (rest:List (List aB×Tree d)) (vs:List Val),
 (ts.drop j).length+tl rest<m→ws.drop a=(ts,body)::rest→j≤ts.length→vs.length≤3→(∀v∈vs,v.ok)→(∀v∈vs,v.nb)→Runs cx L B pre (oi pre cv x a j vs) (c8 (Tree.rd d) (some x) o body rest (ts.drop j) vs) (CA c vs.length ((ts.drop j).length+tl rest))
theorem Xg(rl:bK L k)(hn:0<n)(hX:∀b,aF L.env b→B.X b)(eT:2≤hg)(hp:pre.length+hg+2≤1000)(hl:ws.length≤3)(bX:gO ws)(hO:ie (az p wo K n) L hg c d o ov)(ha:ws.drop a=(aS,body)::rest)(hj:j≤aS.length)
  (IH:Kw (az p wo K n) L B pre (bz (aj ks ps) (ws.map (bI (Tree.node d))) ov) x c ws o ((aS.drop j).length+tl rest)):Runs (az p wo K n) L B pre (oi pre (bz (aj ks ps) (ws.map (bI (Tree.node d))) ov) x a j []) (fQ (Tree.rd d) (some x) o body rest (aS.drop j)) (18*((aS.drop j).length+tl rest)+(c+3)+1):=by
 intro N w ok h;have lw:(ws.map (bI (Tree.node d))).length+1≤500:=by rw[List.length_map];lia
 obtain⟨aa,t,ln,md,out,main⟩:=w;have ot:t+(((18*((aS.drop j).length+tl rest)+(c+3))+1:Nat):Int)≤20000:=ok.t;refine ck rl hX (by show 8≤(FF _ _ _ _).length;rw[bU];lia) ?_;refine cy (t:=t) ⋯ (nd (p:=([V.loc 9]:List V).length+1≤500∧True) ⋯ bq) ⋯ (by lia) ?_;refine nA (sj:=some x) (ay:=x) (w1:=⟨aa,t+1,ln,md,out,main⟩) rl hX (NG x a j) (Qs x a j) (NH lw) hl bX ha hj IH (fun a' j' tt N' gu ok h=> ?_) (fun _ ts b ok h=> ?_) ok.fK fun u w' e=>h u w' e.tick
 ·exact nu (tr:=[10,11,13]) (d:=15) rl hn hX (by lia) gu ok rfl rfl (fun σ=>je (xs:=[]) rfl rfl rfl rfl rfl rfl bY) rfl rfl rfl rfl h
 ·rcases hO with⟨rfl,rfl⟩|⟨to,ko,po,rfl,rfl,eo⟩
  ·exact bC (Qt x a j ts b) trivial (ny (e:=14) rfl (ok.le (qf _) (qm _)) rfl rfl fun u w' e=>(h u w' (e.up (by exact iR))).le (by exact mh))
  ·exact bC (Qu x a j ts b) dJ ((iZ (tr:=[10,11,13]) (d:=14) (xs:=[]) rl hX (by exact qG ‹_›) eo ok rfl rfl (fun σ=>je (xs:=[]) rfl rfl rfl rfl rfl rfl bY) rfl rfl rfl h).le (by lia))
theorem Xh(rl:bK L k)(hn:0<n)(hX:∀b,aF L.env b→B.X b)(eT:2≤hg)(hp:pre.length+hg+2≤1000)(hl:ws.length≤3)(bX:gO ws)(hO:ie (az p wo K n) L hg c d o ov)(ha:ws.drop a=(aS,body)::rest)(hj:j≤aS.length)
  (IH:Kw (az p wo K n) L B pre (bz (aj ks ps) (ws.map (bI (Tree.node d))) ov) x c ws o ((aS.drop j).length+tl rest))(f:Bool):Runs (az p wo K n) L B pre (F0 pre (bz (aj ks ps) (ws.map (bI (Tree.node d))) ov) x a j f []) (fQ (Tree.rd d) (some x) o body rest (aS.drop j)) (18*((aS.drop j).length+tl rest)+(c+3)+1):=by
 intro N w ok h;have lw:(ws.map (bI (Tree.node d))).length+1≤500:=by rw[List.length_map];lia
 obtain⟨aa,t,ln,md,out,main⟩:=w;have ot:t+(((18*((aS.drop j).length+tl rest)+(c+3))+1:Nat):Int)≤20000:=ok.t;refine ck rl hX (by show 8≤(FF _ _ _ _).length;rw[bU];exact fG) ?_;refine cy (t:=t) (by induction f using qd<;>kernel_rfl) (nd (p:=([V.loc 9]:List V).length+1≤500∧True) (by induction f using qd<;>kernel_rfl) bq) (by induction f using qd<;>kernel_rfl) (by lia) ?_
 refine nA (sj:=some x) (ay:=x) (w1:=⟨aa,t+1,ln,md,out,main⟩) rl hX (Kh x f a j) (NI x f a j) (Kl lw) hl bX ha hj IH (fun a' j' tt N' gu ok h=> ?_) (fun _ ts b ok h=> ?_) ok.fK fun u w' e=>h u w' e.tick
 ·exact nu (tr:=[10,11,12]) (d:=14) rl hn hX (by lia) gu ok rfl rfl (fun σ=>nV (xs:=[]) rfl rfl rfl rfl rfl rfl bY) rfl rfl rfl rfl h
 ·rcases hO with⟨rfl,rfl⟩|⟨to,ko,po,rfl,rfl,eo⟩
  ·exact bC (NJ x f a j ts b) trivial (ny (e:=13) rfl (ok.le (qf _) (qm _)) rfl rfl fun u w' e=>(h u w' (e.up (by lia))).le (by lia))
  ·exact bC (NK x f a j ts b) dJ ((iZ (tr:=[10,11,12]) (d:=13) (xs:=[]) rl hX (by lia) eo ok rfl rfl (fun σ=>nV (xs:=[]) rfl rfl rfl rfl rfl rfl bY) rfl rfl rfl h).le (by lia))
end
theorem Zu(rl:bK L k)(hn:0<n)(hX:∀b,aF L.env b→B.X b)(eT:2≤hg)(hp:pre.length+hg+2≤1000)
  (HB:gJ (az p wo K n) L hg c d)(hl:ws.length≤3)(bX:gO ws)(hO:ie (az p wo K n) L hg c d o ov)(fC:x.ok):
  ∀(M a j:Nat) (aS:List aB) (body:Tree d) (rest:List (List aB×Tree d)) (vs:List Val),4*((aS.drop j).length+tl rest)+vs.length=M→ws.drop a=(aS,body)::rest→j≤aS.length→vs.length≤3→(∀v∈vs,v.ok)→
   Runs (az p wo K n) L B pre (oi pre (bz (aj ks ps) (ws.map (bI (Tree.node d))) ov) x a j vs) (c8 (Tree.rd d) (some x) o body rest (aS.drop j) vs) (CA c vs.length ((aS.drop j).length+tl rest))∧
   ∀f,Runs (az p wo K n) L B pre (F0 pre (bz (aj ks ps) (ws.map (bI (Tree.node d))) ov) x a j f vs) (c8 (Tree.rd d) (some x) o body rest (aS.drop j) vs) (CA c vs.length ((aS.drop j).length+tl rest)):=by
 intro M;induction M using Nat.strongRecOn with
 |ind M ih=>
 intro a j aS body rest vs hM ha hj hv uz;have ea:ws[a]? =some (aS,body):=by
  have:=congrArg (·[0]?) ha
  simpa using this
 induction vs using qh with
 |cons v vs=>
  rw[List.length_cons]at hM hv;have hB:=fun f=>(ih _ (by exact qH ‹_›) a j aS body rest vs rfl ha hj (by exact qK ‹_›) fun y hy=>uz y (qj _ hy)).2 f;have e1:CA c (v::vs).length ((aS.drop j).length+tl rest)=1+CA c vs.length ((aS.drop j).length+tl rest)+1:=by rw[List.length_cons];unfold CA;lia
  have eL:=(bX _ (qC ea)).2;rw[e1];exact⟨Zs rl hn hX eT hp HB eL hl ea fC (uz v qi) (by lia) hB,Zt rl hn hX eT hp HB eL hl ea fC (uz v qi) (by lia) hB⟩
 |nil=>
  have IH:Kw (az p wo K n) L B pre (bz (aj ks ps) (ws.map (bI (Tree.node d))) ov) x c ws o ((aS.drop j).length+tl rest):=fun a' j' cg gy bf eg h1 h2 h3 h4 h5 _=>(ih _ (by rw[←hM,List.length_nil];lia) a' j' cg gy bf eg rfl h2 h3 h4 h5).1;rw[show CA c ([]:List Val).length ((aS.drop j).length+tl rest)=(18*((aS.drop j).length+tl rest)+(c+3))+1 by simp[CA];rfl,sX];exact⟨Xg rl hn hX eT hp hl bX hO ha hj IH,Xh rl hn hX eT hp hl bX hO ha hj IH⟩
end
section
variable{K:Frag}
theorem Xi{out main:Value}{aP:List V}{ov:V}{vs:List Val}{i:Int}(a j:Nat):pK (ah (bT p wo K n k (FF (.list pre [.loc 9]) (aC "value" (.lst (V.int i::vs.map Val.v))) ⟨aa,t,ln,md,out,main⟩ (cT "case" (bz .none aP ov) (.str "test") .none a j []))) false) ((2:Nat)≤500∧(vs.map Val.v).length+1+1≤500∧(vs.map Val.v).length+1+1≤500∧(vs.map Val.v).length+1≤400∧True) aP (a:Int):=⟨⋯,⋯⟩
theorem aa8{vs:List Val}(h:vs.length≤10):(2:Nat)≤500∧(vs.map Val.v).length+1+1≤500∧(vs.map Val.v).length+1+1≤500∧(vs.map Val.v).length+1≤400∧True:=by simp;lia
theorem aa9{aP:List V}{ov:V}{vs:List Val}{i:Int}{kb:Str}{pb:V}(a j:Nat):∀ts,iz (bE (ah (bT p wo K n k (FF (.list pre [.loc 9]) (aC "value" (.lst (V.int i::vs.map Val.v))) ⟨aa,t,ln,md,out,main⟩ (cT "case" (bz .none aP ov) (.str "test") .none a j []))) false) (dg ts (kF (aj kb pb)))) ((2:Nat)≤500∧True) (FF (.list pre [.loc 9,.loc (14+1)]) .none ⟨aa,t+1,ln,md,out,main⟩ (cA "case" (bz .none aP ov) (.str "end") .none a j (vs.map Val.v)++[bx "seq" (kF (aj kb pb)) (.int 0) (.loc (14+2)),.inst 463 14,.list [] []])):=fun ts=>⟨⋯,⋯,⋯,⋯,⋯⟩
theorem Xj{out main:Value}{aP:List V}{ov:V}{vs:List Val}{i:Int}(a j:Nat):pK (ah (bT p wo K n k (FF (.list pre [.loc 9]) (aC "value" (.lst (V.none::V.int i::vs.map Val.v))) ⟨aa,t,ln,md,out,main⟩ (cT "case" (bz .none aP ov) (.str "test") .none a j []))) false) ((2:Nat)≤500∧(vs.map Val.v).length+1+1+1≤500∧(vs.map Val.v).length+1+1+1≤500∧(vs.map Val.v).length+1+1≤400∧(vs.map Val.v).length+1+1≤500∧(vs.map Val.v).length+1≤400∧True) aP (a:Int):=⟨⋯,⋯⟩
theorem aba{vs:List Val}(h:vs.length≤10):(2:Nat)≤500∧(vs.map Val.v).length+1+1+1≤500∧(vs.map Val.v).length+1+1+1≤500∧(vs.map Val.v).length+1+1≤400∧(vs.map Val.v).length+1+1≤500∧(vs.map Val.v).length+1≤400∧True:=by simp;lia
theorem abb{aP:List V}{ov:V}{vs:List Val}{i:Int}{kb:Str}{pb:V}(a j:Nat):∀ts,iz (bE (ah (bT p wo K n k (FF (.list pre [.loc 9]) (aC "value" (.lst (V.none::V.int i::vs.map Val.v))) ⟨aa,t,ln,md,out,main⟩ (cT "case" (bz .none aP ov) (.str "test") .none a j []))) false) (dg ts (kF (aj kb pb)))) ((2:Nat)≤500∧True) (FF (.list pre [.loc 9,.loc (14+1)]) .none ⟨aa,t+1,ln,md,out,main⟩ (cA "case" (bz .none aP ov) (.str "end") .none a j (vs.map Val.v)++[bx "seq" (kF (aj kb pb)) (.int 0) (.loc (14+2)),.inst 463 14,.list [] []])):=fun ts=>⟨⋯,⋯,⋯,⋯,⋯⟩
theorem Xk{out main:Value}{aP:List V}{ov:V}{vs:List Val}{i:Int}(a j:Nat):pK (ah (bT p wo K n k (FF (.list pre [.loc 9]) (aC "value" (.lst (V.none::V.none::V.int i::vs.map Val.v))) ⟨aa,t,ln,md,out,main⟩ (cT "case" (bz .none aP ov) (.str "test") .none a j []))) false) ((2:Nat)≤500∧(vs.map Val.v).length+1+1+1+1≤500∧(vs.map Val.v).length+1+1+1+1≤500∧(vs.map Val.v).length+1+1+1≤400∧(vs.map Val.v).length+1+1+1≤500∧(vs.map Val.v).length+1+1≤400∧(vs.map Val.v).length+1+1≤500∧(vs.map Val.v).length+1≤400∧True) aP (a:Int):=⟨⋯,⋯⟩
theorem abc{vs:List Val}(h:vs.length≤10):(2:Nat)≤500∧(vs.map Val.v).length+1+1+1+1≤500∧(vs.map Val.v).length+1+1+1+1≤500∧(vs.map Val.v).length+1+1+1≤400∧(vs.map Val.v).length+1+1+1≤500∧(vs.map Val.v).length+1+1≤400∧(vs.map Val.v).length+1+1≤500∧(vs.map Val.v).length+1≤400∧True:=by simp;lia
theorem abd{aP:List V}{ov:V}{vs:List Val}{i:Int}{kb:Str}{pb:V}(a j:Nat):∀ts,iz (bE (ah (bT p wo K n k (FF (.list pre [.loc 9]) (aC "value" (.lst (V.none::V.none::V.int i::vs.map Val.v))) ⟨aa,t,ln,md,out,main⟩ (cT "case" (bz .none aP ov) (.str "test") .none a j []))) false) (dg ts (kF (aj kb pb)))) ((2:Nat)≤500∧True) (FF (.list pre [.loc 9,.loc (14+1)]) .none ⟨aa,t+1,ln,md,out,main⟩ (cA "case" (bz .none aP ov) (.str "end") .none a j (vs.map Val.v)++[bx "seq" (kF (aj kb pb)) (.int 0) (.loc (14+2)),.inst 463 14,.list [] []])):=fun ts=>⟨⋯,⋯,⋯,⋯,⋯⟩
end
section
variable{K:Frag}
theorem iC{α:Type}{rd:α→Rd}{o:Option α}{body:α}{rest:List (List aB×α)}{ts:List aB}{vs:List Val}:c8 rd none o body rest ts (.none::vs)=c8 rd none o body rest ts vs:=by
 rw[lR];rfl
theorem xe{α:Type}{rd:α→Rd}{o:Option α}{body:α}{rest:List (List aB×α)}{ts:List aB}{vs:List Val}{i:Int}:c8 rd none o body rest ts (.int i::vs)=rd body:=by
 rw[lR];rfl
theorem UK{o:Option (Tree d)}(rl:bK L k)(hn:0<n)(hX:∀b,aF L.env b→B.X b)(eT:2≤hg)(hp:pre.length+hg+2≤1000)
  (hl:ws.length≤3)(bX:gO ws)(hO:ie (az p wo K n) L hg c d o ov){a j:Nat}{aS:List aB}{body:Tree d}{rest:List (List aB×Tree d)}(ha:ws.drop a=(aS,body)::rest)(hj:j≤aS.length)
  (IH:∀(a' j':Nat) (cg:List aB) (gy:Tree d) (bf:List (List aB×Tree d)) (eg:List Val),(cg.drop j').length+tl bf<(aS.drop j).length+tl rest→ws.drop a'=(cg,gy)::bf→j'≤cg.length→eg.length≤3→(∀v∈eg,v.ok)→(∀v∈eg,v.nb)→
   Runs (az p wo K n) L B pre (oi pre (bz .none (ws.map (bI (Tree.node d))) ov) .none a' j' eg) (c8 (Tree.rd d) none o gy bf (cg.drop j') eg) (CA c eg.length ((cg.drop j').length+tl bf))):
  Runs (az p wo K n) L B pre (oi pre (bz .none (ws.map (bI (Tree.node d))) ov) .none a j []) (fQ (Tree.rd d) none o body rest (aS.drop j)) (CA c 0 ((aS.drop j).length+tl rest)):=by
 have lw:(ws.map (bI (Tree.node d))).length+1≤500:=by rw[List.length_map];lia
 have cost:CA c 0 ((aS.drop j).length+tl rest)=(18*((aS.drop j).length+tl rest)+(c+3))+1:=by simp[CA];rfl
 rw[cost];intro N w ok h;obtain⟨aa,t,ln,md,out,main⟩:=w;have ot:t+(((18*((aS.drop j).length+tl rest)+(c+3))+1:Nat):Int)≤20000:=ok.t;refine ck rl hX (by show 8≤(FF _ _ _ _).length;rw[bU];exact fG) ?_;refine cy (t:=t) ⋯ (nd (p:=cZ) ⋯ bq) ⋯ (by lia) ?_;refine nA (sj:=none) (ay:=.none) (w1:=⟨aa,t+1,ln,md,out,main⟩) rl hX (Km a j) (NL a j) (Kn lw) hl bX ha hj IH (fun a' j' tt N' gu ok h=> ?_) (fun _ ts b ok h=> ?_) ok.fK fun u w' e=>h u w' e.tick
 ·exact nu (tr:=[10,11,13]) (d:=15) rl hn hX (by lia) gu ok rfl rfl (fun σ=>je (xs:=[]) rfl rfl rfl rfl rfl rfl bY) rfl rfl rfl rfl h
 ·rcases hO with⟨rfl,rfl⟩|⟨to,ko,po,rfl,rfl,eo⟩
  ·exact bC (NN a j ts b) trivial (ny (e:=14) rfl (ok.le (qf _) (qm _)) rfl rfl fun u w' e=>(h u w' (e.up (by exact iR))).le (by exact mh))
  ·exact bC (NP a j ts b) dJ ((iZ (tr:=[10,11,13]) (d:=14) (xs:=[]) rl hX (by exact qG ‹_›) eo ok rfl rfl (fun σ=>je (xs:=[]) rfl rfl rfl rfl rfl rfl bY) rfl rfl rfl h).le (by lia))
theorem UL{o:Option (Tree d)}(rl:bK L k)(hn:0<n)(hX:∀b,aF L.env b→B.X b)(eT:2≤hg)(hp:pre.length+hg+2≤1000)
  (hl:ws.length≤3)(bX:gO ws)(hO:ie (az p wo K n) L hg c d o ov){a j:Nat}{aS:List aB}{body:Tree d}{rest:List (List aB×Tree d)}(ha:ws.drop a=(aS,body)::rest)(hj:j≤aS.length)
  (IH:∀(a' j':Nat) (cg:List aB) (gy:Tree d) (bf:List (List aB×Tree d)) (eg:List Val),(cg.drop j').length+tl bf<(aS.drop j).length+tl rest→ws.drop a'=(cg,gy)::bf→j'≤cg.length→eg.length≤3→(∀v∈eg,v.ok)→(∀v∈eg,v.nb)→
   Runs (az p wo K n) L B pre (oi pre (bz .none (ws.map (bI (Tree.node d))) ov) .none a' j' eg) (c8 (Tree.rd d) none o gy bf (cg.drop j') eg) (CA c eg.length ((cg.drop j').length+tl bf))):
  Runs (az p wo K n) L B pre (oi pre (bz .none (ws.map (bI (Tree.node d))) ov) .none a j [.none]) (fQ (Tree.rd d) none o body rest (aS.drop j)) (CA c 0 ((aS.drop j).length+tl rest)):=by
 have lw:(ws.map (bI (Tree.node d))).length+1≤500:=by rw[List.length_map];lia
 have cost:CA c 0 ((aS.drop j).length+tl rest)=(18*((aS.drop j).length+tl rest)+(c+3))+1:=by simp[CA];lia
 rw[cost];intro N w ok h;obtain⟨aa,t,ln,md,out,main⟩:=w;have ot:t+(((18*((aS.drop j).length+tl rest)+(c+3))+1:Nat):Int)≤20000:=ok.t;refine ck rl hX (by show 8≤(FF _ _ _ _).length;rw[bU];lia) ?_;refine cy (t:=t) ⋯ (nd (p:=cZ) ⋯ bq) ⋯ (by lia) ?_;refine nA (sj:=none) (ay:=.none) (w1:=⟨aa,t+1,ln,md,out,main⟩) rl hX (Ko a j) (NQ a j) (Kp lw) hl bX ha hj IH (fun a' j' tt N' gu ok h=> ?_) (fun _ ts b ok h=> ?_) ok.fK fun u w' e=>h u w' e.tick
 ·exact nu (tr:=[10,11,13]) (d:=15) rl hn hX (by lia) gu ok rfl rfl (fun σ=>je (xs:=[]) rfl rfl rfl rfl rfl rfl bY) rfl rfl rfl rfl h
 ·rcases hO with⟨rfl,rfl⟩|⟨to,ko,po,rfl,rfl,eo⟩
  ·exact bC (NR a j ts b) trivial (ny (e:=14) rfl (ok.le (qf _) (qm _)) rfl rfl fun u w' e=>(h u w' (e.up (by lia))).le (by lia))
  ·exact bC (NS a j ts b) dJ ((iZ (tr:=[10,11,13]) (d:=14) (xs:=[]) rl hX (by lia) eo ok rfl rfl (fun σ=>je (xs:=[]) rfl rfl rfl rfl rfl rfl bY) rfl rfl rfl h).le (by lia))
theorem UM{o:Option (Tree d)}(rl:bK L k)(hn:0<n)(hX:∀b,aF L.env b→B.X b)(eT:2≤hg)(hp:pre.length+hg+2≤1000)
  (hl:ws.length≤3)(bX:gO ws)(hO:ie (az p wo K n) L hg c d o ov){a j:Nat}{aS:List aB}{body:Tree d}{rest:List (List aB×Tree d)}(ha:ws.drop a=(aS,body)::rest)(hj:j≤aS.length)
  (IH:∀(a' j':Nat) (cg:List aB) (gy:Tree d) (bf:List (List aB×Tree d)) (eg:List Val),(cg.drop j').length+tl bf<(aS.drop j).length+tl rest→ws.drop a'=(cg,gy)::bf→j'≤cg.length→eg.length≤3→(∀v∈eg,v.ok)→(∀v∈eg,v.nb)→
   Runs (az p wo K n) L B pre (oi pre (bz .none (ws.map (bI (Tree.node d))) ov) .none a' j' eg) (c8 (Tree.rd d) none o gy bf (cg.drop j') eg) (CA c eg.length ((cg.drop j').length+tl bf))):
  Runs (az p wo K n) L B pre (oi pre (bz .none (ws.map (bI (Tree.node d))) ov) .none a j [.none,.none]) (fQ (Tree.rd d) none o body rest (aS.drop j)) (CA c 0 ((aS.drop j).length+tl rest)):=by
 have lw:(ws.map (bI (Tree.node d))).length+1≤500:=by rw[List.length_map];lia
 have cost:CA c 0 ((aS.drop j).length+tl rest)=(18*((aS.drop j).length+tl rest)+(c+3))+1:=by simp[CA];lia
 rw[cost];intro N w ok h;obtain⟨aa,t,ln,md,out,main⟩:=w;have ot:t+(((18*((aS.drop j).length+tl rest)+(c+3))+1:Nat):Int)≤20000:=ok.t;refine ck rl hX (by show 8≤(FF _ _ _ _).length;rw[bU];lia) ?_;refine cy (t:=t) ⋯ (nd (p:=cZ) ⋯ bq) ⋯ (by lia) ?_;refine nA (sj:=none) (ay:=.none) (w1:=⟨aa,t+1,ln,md,out,main⟩) rl hX (Kq a j) (NT a j) (Kr lw) hl bX ha hj IH (fun a' j' tt N' gu ok h=> ?_) (fun _ ts b ok h=> ?_) ok.fK fun u w' e=>h u w' e.tick
 ·exact nu (tr:=[10,11,13]) (d:=15) rl hn hX (by lia) gu ok rfl rfl (fun σ=>je (xs:=[]) rfl rfl rfl rfl rfl rfl bY) rfl rfl rfl rfl h
 ·rcases hO with⟨rfl,rfl⟩|⟨to,ko,po,rfl,rfl,eo⟩
  ·exact bC (NU a j ts b) trivial (ny (e:=14) rfl (ok.le (qf _) (qm _)) rfl rfl fun u w' e=>(h u w' (e.up (by lia))).le (by lia))
  ·exact bC (NV a j ts b) dJ ((iZ (tr:=[10,11,13]) (d:=14) (xs:=[]) rl hX (by lia) eo ok rfl rfl (fun σ=>je (xs:=[]) rfl rfl rfl rfl rfl rfl bY) rfl rfl rfl h).le (by lia))
theorem UN{o:Option (Tree d)}(rl:bK L k)(hn:0<n)(hX:∀b,aF L.env b→B.X b)(eT:2≤hg)(hp:pre.length+hg+2≤1000)
  (hl:ws.length≤3)(bX:gO ws)(hO:ie (az p wo K n) L hg c d o ov){a j:Nat}{aS:List aB}{body:Tree d}{rest:List (List aB×Tree d)}(ha:ws.drop a=(aS,body)::rest)(hj:j≤aS.length)
  (IH:∀(a' j':Nat) (cg:List aB) (gy:Tree d) (bf:List (List aB×Tree d)) (eg:List Val),(cg.drop j').length+tl bf<(aS.drop j).length+tl rest→ws.drop a'=(cg,gy)::bf→j'≤cg.length→eg.length≤3→(∀v∈eg,v.ok)→(∀v∈eg,v.nb)→
   Runs (az p wo K n) L B pre (oi pre (bz .none (ws.map (bI (Tree.node d))) ov) .none a' j' eg) (c8 (Tree.rd d) none o gy bf (cg.drop j') eg) (CA c eg.length ((cg.drop j').length+tl bf))):
  Runs (az p wo K n) L B pre (oi pre (bz .none (ws.map (bI (Tree.node d))) ov) .none a j [.none,.none,.none]) (fQ (Tree.rd d) none o body rest (aS.drop j)) (CA c 0 ((aS.drop j).length+tl rest)):=by
 have lw:(ws.map (bI (Tree.node d))).length+1≤500:=by rw[List.length_map];lia
 have cost:CA c 0 ((aS.drop j).length+tl rest)=(18*((aS.drop j).length+tl rest)+(c+3))+1:=by simp[CA];lia
 rw[cost];intro N w ok h;obtain⟨aa,t,ln,md,out,main⟩:=w;have ot:t+(((18*((aS.drop j).length+tl rest)+(c+3))+1:Nat):Int)≤20000:=ok.t;refine ck rl hX (by show 8≤(FF _ _ _ _).length;rw[bU];lia) ?_;refine cy (t:=t) ⋯ (nd (p:=cZ) ⋯ bq) ⋯ (by lia) ?_;refine nA (sj:=none) (ay:=.none) (w1:=⟨aa,t+1,ln,md,out,main⟩) rl hX (Ks a j) (NW a j) (Ku lw) hl bX ha hj IH (fun a' j' tt N' gu ok h=> ?_) (fun _ ts b ok h=> ?_) ok.fK fun u w' e=>h u w' e.tick
 ·exact nu (tr:=[10,11,13]) (d:=15) rl hn hX (by lia) gu ok rfl rfl (fun σ=>je (xs:=[]) rfl rfl rfl rfl rfl rfl bY) rfl rfl rfl rfl h
 ·rcases hO with⟨rfl,rfl⟩|⟨to,ko,po,rfl,rfl,eo⟩
  ·exact bC (NX a j ts b) trivial (ny (e:=14) rfl (ok.le (qf _) (qm _)) rfl rfl fun u w' e=>(h u w' (e.up (by lia))).le (by lia))
  ·exact bC (NY a j ts b) dJ ((iZ (tr:=[10,11,13]) (d:=14) (xs:=[]) rl hX (by lia) eo ok rfl rfl (fun σ=>je (xs:=[]) rfl rfl rfl rfl rfl rfl bY) rfl rfl rfl h).le (by lia))
theorem Xl{d hg c:Nat}{ws:List (List aB×Tree d)}(rl:bK L k)(hn:0<n)(hX:∀b,aF L.env b→B.X b)(eT:2≤hg)(hp:pre.length+hg+2≤1000)
  (hl:ws.length≤3)(bX:gO ws)(HB:gJ (az p wo K n) L hg c d){vs:List Val}{i:Int}(hv:vs.length≤3){a j:Nat}{aS:List aB}{body:Tree d}{rest:List (List aB×Tree d)}(ha:ws.drop a=(aS,body)::rest)(hj:j≤aS.length):
  Runs (az p wo K n) L B pre (oi pre (bz .none (ws.map (bI (Tree.node d))) ov) .none a j (.int i::vs)) (Tree.rd d body) (c+4):=by
 have ea:ws[a]? =some (aS,body):=by
  have:=congrArg (·[0]?) ha
  simpa using this
 obtain⟨kb,pb,en,eb⟩:=HB body (bX _ (qC ea)).2;intro N w ok h;obtain⟨aa,t,ln,md,out,main⟩:=w;have ot:t+((c+4:Nat):Int)≤20000:=ok.t;refine At.le (N:=(N+1+(c+2))+1) (by lia) ?_;refine ck rl hX (by show 8≤(FF _ _ _ _).length;rw[bU];lia) ?_;have ev:(ws.map (bI (Tree.node d)))[a]? =some (dg (aS.map aB.node) (kF (aj kb pb))):=by rw[List.getElem?_map,ea,←en];rfl
 refine cy (t:=t) ⋯ (nd (p:=cZ) ⋯ bq) ⋯ (by lia) ?_;refine g9 _ (a:Int) a _ (Xi a j).1 (nd (Xi a j).2 (aa8 (by lia))) rfl ev (by rw[List.length_map];lia) ?_;refine bC (aa9 a j _) dJ ?_;refine iZ (tr:=[10,11,13]) (d:=14) (kb:="seq") (R:=Tree.rd d body) rl hX (hb:=hg+1) (by assumption) (AR rl eb) (ok.le (by exact iR) (qf _)).fK rfl rfl (fun σ=>je rfl rfl rfl rfl rfl rfl bY) rfl rfl rfl fun u w' e=>h u w' (e.tick.up (by lia))
theorem Xm{d hg c:Nat}{ws:List (List aB×Tree d)}(rl:bK L k)(hn:0<n)(hX:∀b,aF L.env b→B.X b)(eT:2≤hg)(hp:pre.length+hg+2≤1000)
  (hl:ws.length≤3)(bX:gO ws)(HB:gJ (az p wo K n) L hg c d){vs:List Val}{i:Int}(hv:vs.length≤3){a j:Nat}{aS:List aB}{body:Tree d}{rest:List (List aB×Tree d)}(ha:ws.drop a=(aS,body)::rest)(hj:j≤aS.length):
  Runs (az p wo K n) L B pre (oi pre (bz .none (ws.map (bI (Tree.node d))) ov) .none a j (.none::.int i::vs)) (Tree.rd d body) (c+4):=by
 have ea:ws[a]? =some (aS,body):=by
  have:=congrArg (·[0]?) ha
  simpa using this
 obtain⟨kb,pb,en,eb⟩:=HB body (bX _ (qC ea)).2;intro N w ok h;obtain⟨aa,t,ln,md,out,main⟩:=w;have ot:t+((c+4:Nat):Int)≤20000:=ok.t;refine At.le (N:=(N+1+(c+2))+1) (by lia) ?_;refine ck rl hX (by show 8≤(FF _ _ _ _).length;rw[bU];lia) ?_;have ev:(ws.map (bI (Tree.node d)))[a]? =some (dg (aS.map aB.node) (kF (aj kb pb))):=by rw[List.getElem?_map,ea,←en];rfl
 refine cy (t:=t) ⋯ (nd (p:=cZ) ⋯ bq) ⋯ (by lia) ?_;refine g9 _ (a:Int) a _ (Xj a j).1 (nd (Xj a j).2 (aba (by lia))) rfl ev (by rw[List.length_map];lia) ?_;refine bC (abb a j _) dJ ?_;refine iZ (tr:=[10,11,13]) (d:=14) (kb:="seq") (R:=Tree.rd d body) rl hX (hb:=hg+1) (by lia) (AR rl eb) (ok.le (by lia) (qf _)).fK rfl rfl (fun σ=>je rfl rfl rfl rfl rfl rfl bY) rfl rfl rfl fun u w' e=>h u w' (e.tick.up (by lia))
theorem Xn{d hg c:Nat}{ws:List (List aB×Tree d)}(rl:bK L k)(hn:0<n)(hX:∀b,aF L.env b→B.X b)(eT:2≤hg)(hp:pre.length+hg+2≤1000)
  (hl:ws.length≤3)(bX:gO ws)(HB:gJ (az p wo K n) L hg c d){vs:List Val}{i:Int}(hv:vs.length≤3){a j:Nat}{aS:List aB}{body:Tree d}{rest:List (List aB×Tree d)}(ha:ws.drop a=(aS,body)::rest)(hj:j≤aS.length):
  Runs (az p wo K n) L B pre (oi pre (bz .none (ws.map (bI (Tree.node d))) ov) .none a j (.none::.none::.int i::vs)) (Tree.rd d body) (c+4):=by
 have ea:ws[a]? =some (aS,body):=by
  have:=congrArg (·[0]?) ha
  simpa using this
 obtain⟨kb,pb,en,eb⟩:=HB body (bX _ (qC ea)).2;intro N w ok h;obtain⟨aa,t,ln,md,out,main⟩:=w;have ot:t+((c+4:Nat):Int)≤20000:=ok.t;refine At.le (N:=(N+1+(c+2))+1) (by lia) ?_;refine ck rl hX (by show 8≤(FF _ _ _ _).length;rw[bU];lia) ?_;have ev:(ws.map (bI (Tree.node d)))[a]? =some (dg (aS.map aB.node) (kF (aj kb pb))):=by rw[List.getElem?_map,ea,←en];rfl
 refine cy (t:=t) ⋯ (nd (p:=cZ) ⋯ bq) ⋯ (by lia) ?_;refine g9 _ (a:Int) a _ (Xk a j).1 (nd (Xk a j).2 (abc (by lia))) rfl ev (by rw[List.length_map];lia) ?_;refine bC (abd a j _) dJ ?_;refine iZ (tr:=[10,11,13]) (d:=14) (kb:="seq") (R:=Tree.rd d body) rl hX (hb:=hg+1) (by lia) (AR rl eb) (ok.le (by lia) (qf _)).fK rfl rfl (fun σ=>je rfl rfl rfl rfl rfl rfl bY) rfl rfl rfl fun u w' e=>h u w' (e.tick.up (by lia))
theorem Kx:CA c 0 left≤CA c i left:=by unfold CA;simp
theorem F2:c+4≤CA c i left:=by unfold CA;exact fG
theorem Zv{ov:V}{d hg c:Nat}{ws:List (List aB×Tree d)}{o:Option (Tree d)}(rl:bK L k)(hn:0<n)(hX:∀b,aF L.env b→B.X b)(eT:2≤hg)(hp:pre.length+hg+2≤1000)
  (hl:ws.length≤3)(bX:gO ws)(HB:gJ (az p wo K n) L hg c d)(hO:ie (az p wo K n) L hg c d o ov):
  ∀(M a j:Nat) (aS:List aB) (body:Tree d) (rest:List (List aB×Tree d)) (vs:List Val),(aS.drop j).length+tl rest=M→ws.drop a=(aS,body)::rest→j≤aS.length→vs.length≤3→(∀v∈vs,v.nb)→
   Runs (az p wo K n) L B pre (oi pre (bz .none (ws.map (bI (Tree.node d))) ov) .none a j vs) (c8 (Tree.rd d) none o body rest (aS.drop j) vs) (CA c vs.length ((aS.drop j).length+tl rest)):=by
 intro M;induction M using Nat.strongRecOn with
 |ind M ih=>
 intro a j aS body rest vs hM ha hj hv nb;have IH:=fun(a' j':Nat) (cg:List aB) (gy:Tree d) (bf:List (List aB×Tree d)) (eg:List Val) (h1:(cg.drop j').length+tl bf<(aS.drop j).length+tl rest) (h2:ws.drop a'=(cg,gy)::bf) (h3:j'≤cg.length) (h4:eg.length≤3) (h5:∀v∈eg,v.ok) (h6:∀v∈eg,v.nb)=>ih _ (by lia) a' j' cg gy bf eg rfl h2 h3 h4 h6
 match vs,hv,nb with
 |[],_,_=>exact UK rl hn hX eT hp hl bX hO ha hj IH
 |.int i::vs,hv,_=>rw[xe];exact(Xl rl hn hX eT hp hl bX HB (by simp only[List.length_cons]at hv;exact qK ‹_›) ha hj).le F2
 |.none::[],_,_=>rw[iC,sX];exact(UL rl hn hX eT hp hl bX hO ha hj IH).le Kx
 |.none::.int i::vs,hv,_=>rw[iC,xe];exact(Xm rl hn hX eT hp hl bX HB (by simp only[List.length_cons]at hv;lia) ha hj).le F2
 |.none::.none::[],_,_=>rw[iC,iC,sX];exact(UM rl hn hX eT hp hl bX hO ha hj IH).le Kx
 |.none::.none::.int i::vs,hv,_=>rw[iC,iC,xe];exact(Xn rl hn hX eT hp hl bX HB (by simp only[List.length_cons]at hv;lia) ha hj).le F2
 |.none::.none::.none::[],_,_=>rw[iC,iC,iC,sX];exact(UN rl hn hX eT hp hl bX hO ha hj IH).le Kx
 |.bool b::vs,_,nb=>exact(nb _ (qi)).elim
 |.none::.bool b::vs,_,nb=>exact(nb (.bool b) (by exact kI)).elim
 |.none::.none::.bool b::vs,_,nb=>exact(nb (.bool b) (by simp)).elim
 |.none::.none::.none::_::vs,hv,_=>simp at hv
end
theorem Ky:∀{ws:List (List aB×Tree d)},gO ws→tl ws≤2*ws.length
 |[],_=>qf _
 |w::ws,h=>by
  have:=Ky (ws:=ws) fun x hx=>h x (qj _ hx);have h2:=(h w (qi)).1.1.2;simp only[tl,List.length_cons];lia
section
variable{K:Frag}
theorem UO(rl:bK L k)(hn:0<n)(hX:∀b,aF L.env b→B.X b)(eT:2≤hg)(hp:pre.length+hg+2≤1000)
  (HB:gJ (az p wo K n) L hg c d)(hl:ws.length≤3)(bX:gO ws)(hO:ie (az p wo K n) L hg c d o ov)(fC:x.ok):
  Runs (az p wo K n) L B pre (fun w=>FF (.list pre [.loc 9]) (aC "value" x.v) w (tT "case" (bz (aj ks ps) (ws.map (bI (Tree.node d))) ov) (.str "subject"))) (eZ (Tree.rd d) (some x) o ws) (c+112):=by
 have lw:(ws.map (bI (Tree.node d))).length+1≤500:=by rw[List.length_map];lia
 have ltl:=Ky bX;intro N w ok h;obtain⟨aa,t,ln,md,out,main⟩:=w;have ot:t+((c+112:Nat):Int)≤20000:=ok.t;refine At.le (N:=N+(c+111)+1) (by exact iR) ?_;refine ck rl hX (by show 8≤(FF _ _ _ _).length;rw[bU];exact fG) ?_;refine cy (t:=t) (by induction x using Val.casesOn<;>kernel_rfl) (nd (p:=cZ) (by induction x using Val.casesOn<;>kernel_rfl) bq) (by induction x using Val.casesOn<;>kernel_rfl) (by lia) ?_
 induction ws using qh with
 |nil=>
  have h:∀u w',bO (lM (Tree.rd d) (.val .none) o) (c+112) ⟨aa,t,ln,md,out,main⟩ u w'→At (az p wo K n) L 8 B (FF (.list pre []) u w' []) N:=h;have ok:aW (c+112) (lM (Tree.rd d) (.val .none) o).1.length ⟨aa,t,ln,md,out,main⟩:=ok;refine jT (c:=false) (C7 x) (A1 lw) (decide_eq_false (by show¬((0:Nat):Int)<((0:Nat):Int);decide)) ?_;refine jT (c:=true) (Nx x) ⟨lw,trivial⟩ (decide_eq_true rfl) ?_;rcases hO with⟨rfl,rfl⟩|⟨to,ko,po,rfl,rfl,eo⟩
  ·exact(bC (Ny x) trivial (ny (e:=14) (c:=c+111) rfl ((ok.le (by exact iR) (qm _)).fK) rfl rfl fun u w' e=>(h u w' (e.tick.up (by lia))))).mono fun q tq=>tq.le (by exact mh)
  ·exact(bC (Nz x) dJ (iZ (tr:=[11,12,13]) (d:=14) (xs:=[]) rl hX (by exact qG ‹_›) eo ((ok.le (c':=c+1+1) (by simp) (qf _)).fK) rfl rfl (fun σ=>sy rfl rfl rfl rfl rfl rfl bY) rfl rfl rfl fun u w' e=>h u w' (e.tick.up (by lia)))).mono fun q tq=>tq.le (by lia)
 |cons w0 rest=>
  obtain⟨aS,body⟩:=w0;have e0:(aS.drop 0).length+tl rest=tl ((aS,body)::rest):=rfl;have l0:=(bX _ (qi)).1.1.1;have W6:((aS,body)::rest).length≤3:=hl;refine(nA (N:=N) (sv:=aj ks ps) (ov:=ov) (c:=c) (sj:=some x) (ay:=x) (o:=o) (w1:=⟨aa,t+1,ln,md,out,main⟩) (aS:=aS) (body:=body) (rest:=rest) rl hX (Kf x) (C7 x) (A1 lw) hl bX rfl (qm _) (fun a' j' cg gy bf eg h1 h2 h3 h4 h5 _=>((Zu rl hn hX eT hp HB hl bX hO fC _ a' j' cg gy bf eg rfl h2 h3 h4 h5).1)) (fun a' j' tt N' gu ok h=> ?_) (fun e=> ?_) ?_ ?_).mono fun q tq=>tq.le (by rw[e0];lia)
  ·exact nu (tr:=[11,12,13]) (d:=15) rl hn hX (by lia) gu ok rfl rfl (fun σ=>sy rfl rfl rfl rfl rfl rfl bY) rfl rfl rfl rfl h
  ·have e:aS=[]:=e;subst e;simp at l0
  ·rw[e0];exact(ok.le (c':=(18*tl ((aS,body)::rest)+(c+3))+1) (by lia) (qf _)).fK
  ·rw[e0];exact fun u w' e=>h u w' (e.tick.up (by lia))
theorem Xo(rl:bK L k)(hn:0<n)(eT:2≤hg)(HB:gJ (az p wo K n) L hg c d)(hl:ws.length≤3)(bX:gO ws)(hO:ie (az p wo K n) L hg c d o ov)
  (iU:CR R.2)(hs:iO (az p wo K n) L hg c ks (aj ks ps) R):
  iO (az p wo K n) L (hg+2) (2*c+113) "case" (bz (aj ks ps) (ws.map (bI (Tree.node d))) ov) (cY R fun x=>eZ (Tree.rd d) (some x) o ws):=by
 intro w ok B pre N hX hp h;obtain⟨m1,w1⟩:=R;have ot:=ok.t;have l1:m1.length≤(cY (m1,w1) fun x=>eZ (Tree.rd d) (some x) o ws).1.length:=by
  induction w1 using bu.casesOn with
  |raise z=>exact qf _
  |val x=>simp[cY,Mine.Internal.after]
 refine At.le (N:=(N+(c+112)+c)+1) (by lia) ?_;refine fR [] [.ok ((2:Nat)≤500∧(2:Nat)≤500∧True) ((.next,cH),FF (.list pre [.loc 9,.loc (11+1)]) .none {w with t:=w.t+1} (tT "case" (bz (aj ks ps) (ws.map (bI (Tree.node d))) ov) (.str "subject")++[bx ks (aj ks ps) (.int 0) (.loc (11+2)),.inst 463 11,.list [] []]))] rl hX (by lia) (.ok ⟨by decide,dJ⟩ ?_) ⋯;refine gA (N:=N+(c+112)) (c:=c) (w:={w with t:=w.t+1}) (T:=tT "case" (bz (aj ks ps) (ws.map (bI (Tree.node d))) ov) (.str "subject")) (node2:=aj ks ps) (tr:=[10]) (zs:=[]) (d:=11) rl hs hX (by exact qG ‹_›) (aW.tick (ok.le (by lia) l1)) rfl rfl
  (fun σ _=>uD rfl rfl rfl rfl bY) rfl rfl rfl (fun σ _=>.closed rfl) (uC rfl) rfl (fun bh w' en=> ?_)
 have et:w'.t≤w.t+1+c:=en.t;induction w1 using bu.casesOn with
 |raise z=>
  have cl:=en.cl ok.aa;obtain⟨e,ce,ze,rfl⟩:=en.way;exact At.le (N:=N+1) (by lia) (dI rl hX cl.1 cl.2 (h _ _ ⟨⟨e,ce,ze,rfl⟩,en.aa,by push_cast;lia,en.md⟩))
 |val x=>
  have fC:x.ok:=iU;have hw:bh=aC "value" x.v:=en.way;subst hw;have fS:aW (c+112) (eZ (Tree.rd d) (some x) o ws).1.length w':=en.ok (c':=c+112) (aW.tick (ok.le (by lia) (by simp[cY,Mine.Internal.after])));refine UO rl hn hX eT (by assumption) HB hl bX hO fC N w' fS fun u w2 cj=>h _ _ ⟨cj.way, ?_, ?_,cj.md⟩
  ·rw[cj.aa,en.aa];simp[cY,Mine.Internal.after]
  ·have:=cj.t;push_cast at this⊢;lia
theorem Xp(rl:bK L k)(hn:0<n)(eT:2≤hg)(HB:gJ (az p wo K n) L hg c d)(hl:ws.length≤3)(bX:gO ws)(hO:ie (az p wo K n) L hg c d o ov):
  iO (az p wo K n) L (hg+2) (2*c+113) "case" (bz .none (ws.map (bI (Tree.node d))) ov) (eZ (Tree.rd d) none o ws):=by
 have lw:(ws.map (bI (Tree.node d))).length+1≤500:=by rw[List.length_map];lia
 have ltl:=Ky bX;intro w ok B pre N hX hp h;obtain⟨aa,t,ln,md,out,main⟩:=w;have ot:t+((2*c+113:Nat):Int)≤20000:=ok.t;refine At.le (N:=N+(c+111)+1) (by lia) ?_;refine ck rl hX (by rw[bU];exact fG) ?_;refine cy (t:=t) ⋯ (nd (p:=cZ) ⋯ bq) ⋯ (by lia) ?_;induction ws using qh with
 |nil=>
  have h:∀u w',bO (lM (Tree.rd d) (.val .none) o) (2*c+113) ⟨aa,t,ln,md,out,main⟩ u w'→At (az p wo K n) L 8 B (FF (.list pre []) u w' []) N:=h;have ok:aW (2*c+113) (lM (Tree.rd d) (.val .none) o).1.length ⟨aa,t,ln,md,out,main⟩:=ok;refine jT (c:=false) C8 (A2 lw) (decide_eq_false (by show¬((0:Nat):Int)<((0:Nat):Int);lia)) ?_;refine jT (c:=true) NB ⟨lw,trivial⟩ (decide_eq_true rfl) ?_;rcases hO with⟨rfl,rfl⟩|⟨to,ko,po,rfl,rfl,eo⟩
  ·exact(bC ND trivial (ny (e:=14) (c:=c+111) rfl ((ok.le (by lia) (qm _)).fK) rfl rfl fun u w' e=>(h u w' (e.tick.up (by lia))))).mono fun q tq=>tq.le (by lia)
  ·exact(bC NF dJ (iZ (tr:=[11,12,13]) (d:=14) (xs:=[]) rl hX (by lia) eo ((ok.le (c':=c+1+1) (by lia) (qf _)).fK) rfl rfl (fun σ=>sy rfl rfl rfl rfl rfl rfl bY) rfl rfl rfl fun u w' e=>h u w' (e.tick.up (by lia)))).mono fun q tq=>tq.le (by lia)
 |cons w0 rest=>
  obtain⟨aS,body⟩:=w0;have e0:(aS.drop 0).length+tl rest=tl ((aS,body)::rest):=rfl;have l0:=(bX _ (qi)).1.1.1;have W6:((aS,body)::rest).length≤3:=hl;refine(nA (N:=N) (sv:=.none) (ov:=ov) (c:=c) (sj:=none) (ay:=.none) (o:=o) (w1:=⟨aa,t+1,ln,md,out,main⟩) (aS:=aS) (body:=body) (rest:=rest) rl hX Kg C8 (A2 lw) hl bX rfl (qm _) (fun a' j' cg gy bf eg h1 h2 h3 h4 h5 h6=>(Zv rl hn hX eT (by omega) hl bX HB hO _ a' j' cg gy bf eg rfl h2 h3 h4 h6)) (fun a' j' tt N' gu ok h=> ?_) (fun e=> ?_) ?_ ?_).mono fun q tq=>tq.le (by rw[e0];omega)
  ·exact nu (tr:=[11,12,13]) (d:=15) rl hn hX (by lia) gu ok rfl rfl (fun σ=>sy rfl rfl rfl rfl rfl rfl bY) rfl rfl rfl rfl h
  ·have e:aS=[]:=e;subst e;simp at l0
  ·rw[e0];exact(ok.le (c':=(18*tl ((aS,body)::rest)+(c+3))+1) (by lia) (qf _)).fK
  ·rw[e0];exact fun u w' e=>h u w' (e.tick.up (by lia))
end
noncomputable abbrev fX(sv:V)(arms:List V)(ov:V):V:=aj "casein" (.tup [sv,.lst arms,ov])
noncomputable abbrev jU(q g b:V):V:=.tup [q,g,b]
noncomputable def Kz(d:Nat)(kq:Str)(pq:V)(x:V):St:=[bx kq (aj kq pq) (.int 0) (.loc (d+4)),.inst 463 d,.list [] [],sq x 0 (d+5) (d+6),.inst 708 (d+3),.list [] [],.dict []]
structure A5 (D:Nat) (r:aA cC) (x:Val) (p1:Prop) (mH CZ:St):Prop where
 a:BP r=some (345,[x.v])
 n:eY r=p1
 d:BQ r=D
 s:lX r=mH
 o:iL (jQ r (.str (eB x)) mH)=true
 m:eY (jQ r (.str (eB x)) mH)=DG
 e1:yQ (jQ r (.str (eB x)) mH)=.next
 e2:sY (jQ r (.str (eB x)) mH)=cH
 e3:lS (jQ r (.str (eB x)) mH)=CZ
theorem F3{p:Program}{wo:World}{K:Frag}{n D N:Nat}{L:Lp}{B:Bs}{r:aA cC}{x:Val}{p1:Prop}{mH CZ:St}(F:A5 D r x p1 mH CZ)(hD:8≤D)(hn:0<n)(ok:x.ok)(hp:p1)(q:fZ (az p wo K n) L B N CZ):Gd (dS n) aI r (ju (az p wo K n) L B N):=
 FI x hn ok F.a (nd F.n hp) D F.d hD mH F.s (bC ⟨F.o,F.m,F.e1,F.e2,F.e3⟩ FY q)
section
variable{p:Program}{wo:World}{K:Frag}{n k:Nat}{pre:List Value}{aa:List V}{t ln:Int}{md:List (Str×V)}{out main:Value}{ks:Str}{ps:V}{as:List V}{ov:V}
noncomputable abbrev NZ(p:Program)(wo:World)(K:Frag)(n k:Nat)(pre:List Value)(w:Ws)(ks:Str)(ps:V)(as:List V)(ov:V)(x:Val):aA cC:=ah (bT p wo K n k (FF (.list pre [.loc 9]) (aC "value" x.v) w (tT "casein" (fX (aj ks ps) as ov) (.str "subject")))) false
theorem Xq(x:Val):kM (NZ p wo K n k pre ⟨aa,t,ln,md,out,main⟩ ks ps as ov x) ((2:Nat)≤500∧as.length+1≤500∧True) (decide ((0:Int)<Int.ofNat as.length)):=by induction x using Val.casesOn<;>exact⟨⋯,⋯,⋯⟩
theorem Xr(x:Val):pK (ah (NZ p wo K n k pre ⟨aa,t,ln,md,out,main⟩ ks ps as ov x) true) True as 0:=by induction x using Val.casesOn<;>exact⟨⋯,⋯⟩
theorem Xs(x:Val)(kq:Str)(pq g b:V):iz (bE (ah (NZ p wo K n k pre ⟨aa,t,ln,md,out,main⟩ ks ps as ov x) true) (jU (aj kq pq) g b)) ((2:Nat)≤500∧True)
  (FF (.list pre [.loc 9,.loc (14+1)]) .none ⟨aa,t+1,ln,md,out,main⟩ (cM "casein" (fX (aj ks ps) as ov) (.str "matched") x 0 0++Kz 14 kq pq x.v)):=by induction x using Val.casesOn<;>exact⟨⋯,⋯,⋯,⋯,⋯⟩
theorem Xu(x:Val)(ko:Str)(po:V):iz (ah (NZ p wo K n k pre ⟨aa,t,ln,md,out,main⟩ ks ps as (aj ko po) x) false) ((2:Nat)≤500∧True)
  (FF (.list pre [.loc 9,.loc (14+1)]) .none ⟨aa,t+1,ln,md,out,main⟩ (cM "casein" (fX (aj ks ps) as (aj ko po)) (.str "end") x 0 0++[bx ko (aj ko po) (.int 0) (.loc (14+2)),.inst 463 14,.list [] []])):=by induction x using Val.casesOn<;>exact⟨⋯,⋯,⋯,⋯,⋯⟩
theorem Xv(x:Val)(f:Bool)(q:Nat→Addr):A5 (k+37) (ah (NZ p wo K n k pre ⟨aa,t,ln,nW f q,out,main⟩ ks ps as .none x) false) x True
  (FF (.list pre [.loc 9]) .none ⟨aa,t+1,ln,nW f q,out,main⟩ (cM "casein" (fX (aj ks ps) as .none) (.str "subject") x 0 0))
  (FF (.list pre []) (.loc 61) ⟨aa,t+1,ln+1+1+1+1+1+1+1,nW f q++sA 14,out,main⟩ (cM "casein" (fX (aj ks ps) as .none) (.str "subject") x 0 0++yb 14 ln q (eB x))):=by
 induction f using qd<;>induction x using Val.casesOn<;>exact⟨⋯,⋯,⋯,⋯,⋯,⋯,⋯,⋯,⋯⟩
noncomputable abbrev Dc(p:Program)(wo:World)(K:Frag)(n k:Nat)(pre:List Value)(w:Ws)(ks:Str)(ps:V)(as:List V)(ov:V)(x:Val)(a:Nat)(b:Bool):aA cC:=ah (bT p wo K n k (FF (.list pre [.loc 9]) (aC "value" (.bool b)) w (cT "casein" (fX (aj ks ps) as ov) (.str "matched") x a 0 []))) false
theorem uF(x:Val)(a:Nat)(b:Bool):pK (Dc p wo K n k pre ⟨aa,t,ln,md,out,main⟩ ks ps as ov x a b) ((2:Nat)≤500∧True) as (a:Int):=⟨⋯,⋯⟩
theorem Qw(x:Val)(a:Nat)(q:V)(kb:Str)(pb:V):iz (bE (Dc p wo K n k pre ⟨aa,t,ln,md,out,main⟩ ks ps as ov x a true) (jU q .none (aj kb pb))) ((2:Nat)≤500∧True)
  (FF (.list pre [.loc 9,.loc (13+1)]) .none ⟨aa,t+1,ln,md,out,main⟩ (cT "casein" (fX (aj ks ps) as ov) (.str "end") x a 0 []++[bx kb (aj kb pb) (.int 0) (.loc (13+2)),.inst 463 13,.list [] []])):=⟨⋯,⋯,⋯,⋯,⋯⟩
theorem N4(x:Val)(a:Nat)(q b:V)(gi:Int):iz (bE (Dc p wo K n k pre ⟨aa,t,ln,md,out,main⟩ ks ps as ov x a true) (jU q (jd (some gi)) b)) ((2:Nat)≤500∧True)
  (FF (.list pre [.loc 9,.loc (13+1)]) .none ⟨aa,t+1,ln,md,out,main⟩ (cT "casein" (fX (aj ks ps) as ov) (.str "guard") x a 0 []++[bx "gvar" (jd (some gi)) (.int 0) (.loc (13+2)),.inst 463 13,.list [] []])):=⟨⋯,⋯,⋯,⋯,⋯⟩
theorem Xw(x:Val)(a:Nat)(q g b:V):kM (bE (Dc p wo K n k pre ⟨aa,t,ln,md,out,main⟩ ks ps as ov x a false) (jU q g b)) (as.length+1≤500∧True) (decide ((a:Int)+1<Int.ofNat as.length)):=⟨⋯,⋯,⋯⟩
theorem UP(x:Val)(a:Nat)(q g b:V):pK (ah (bE (Dc p wo K n k pre ⟨aa,t,ln,md,out,main⟩ ks ps as ov x a false) (jU q g b)) true) True as ((a:Int)+1):=⟨⋯,⋯⟩
theorem Xx(x:Val)(a:Nat)(q g b:V)(kq:Str)(pq g2 b2:V):iz (bE (ah (bE (Dc p wo K n k pre ⟨aa,t,ln,md,out,main⟩ ks ps as ov x a false) (jU q g b)) true) (jU (aj kq pq) g2 b2)) ((2:Nat)≤500∧True)
  (FF (.list pre [.loc 9,.loc (13+1)]) .none ⟨aa,t+1,ln,md,out,main⟩ (cT "casein" (fX (aj ks ps) as ov) (.str "matched") x ((a:Int)+1) 0 []++Kz 13 kq pq x.v)):=by induction x using Val.casesOn<;>exact⟨⋯,⋯,⋯,⋯,⋯⟩
theorem Xy(x:Val)(a:Nat)(q g b:V)(ko:Str)(po:V):iz (ah (bE (Dc p wo K n k pre ⟨aa,t,ln,md,out,main⟩ ks ps as (aj ko po) x a false) (jU q g b)) false) ((2:Nat)≤500∧True)
  (FF (.list pre [.loc 9,.loc (13+1)]) .none ⟨aa,t+1,ln,md,out,main⟩ (cT "casein" (fX (aj ks ps) as (aj ko po)) (.str "end") x ((a:Int)+1) 0 []++[bx ko (aj ko po) (.int 0) (.loc (13+2)),.inst 463 13,.list [] []])):=⟨⋯,⋯,⋯,⋯,⋯⟩
theorem Xz(x:Val)(a:Nat)(v1 g b:V)(f:Bool)(q:Nat→Addr):A5 (k+36) (ah (bE (Dc p wo K n k pre ⟨aa,t,ln,nW f q,out,main⟩ ks ps as .none x a false) (jU v1 g b)) false) x True
  (FF (.list pre [.loc 9]) .none ⟨aa,t+1,ln,nW f q,out,main⟩ (cT "casein" (fX (aj ks ps) as .none) (.str "matched") x ((a:Int)+1) 0 []))
  (FF (.list pre []) (.loc 60) ⟨aa,t+1,ln+1+1+1+1+1+1+1,nW f q++sA 13,out,main⟩ (cT "casein" (fX (aj ks ps) as .none) (.str "matched") x ((a:Int)+1) 0 []++yb 13 ln q (eB x))):=by
 induction f using qd<;>induction x using Val.casesOn<;>exact⟨⋯,⋯,⋯,⋯,⋯,⋯,⋯,⋯,⋯⟩
noncomputable abbrev F4(p:Program)(wo:World)(K:Frag)(n k:Nat)(pre:List Value)(w:Ws)(ks:Str)(ps:V)(as:List V)(ov:V)(x:Val)(a:Nat)(y:V):aA cC:=ah (bT p wo K n k (FF (.list pre [.loc 9]) (aC "value" y) w (cT "casein" (fX (aj ks ps) as ov) (.str "guard") x a 0 []))) false
theorem N5(x y:Val)(hy:y.holds=true)(a:Nat):pK (F4 p wo K n k pre ⟨aa,t,ln,md,out,main⟩ ks ps as ov x a y.v) ((2:Nat)≤500∧True) as (a:Int):=by
 induction y using Val.casesOn with
 |none=>exact ft hy
 |int i=>exact⟨⋯,⋯⟩
 |bool b=>induction b using qd with
  |false=>exact ft hy
  |true=>exact⟨⋯,⋯⟩
theorem Qx(x y:Val)(hy:y.holds=true)(a:Nat)(q g:V)(kb:Str)(pb:V):iz (bE (F4 p wo K n k pre ⟨aa,t,ln,md,out,main⟩ ks ps as ov x a y.v) (jU q g (aj kb pb))) ((2:Nat)≤500∧True)
  (FF (.list pre [.loc 9,.loc (13+1)]) .none ⟨aa,t+1,ln,md,out,main⟩ (cT "casein" (fX (aj ks ps) as ov) (.str "end") x a 0 []++[bx kb (aj kb pb) (.int 0) (.loc (13+2)),.inst 463 13,.list [] []])):=by
 induction y using Val.casesOn with
 |none=>exact ft hy
 |int i=>exact⟨⋯,⋯,⋯,⋯,⋯⟩
 |bool b=>induction b using qd with
  |false=>exact ft hy
  |true=>exact⟨⋯,⋯,⋯,⋯,⋯⟩
theorem XA(x:Val)(z:Bool)(a:Nat):kM (F4 p wo K n k pre ⟨aa,t,ln,md,out,main⟩ ks ps as ov x a (lD z)) ((2:Nat)≤500∧as.length+1≤500∧True) (decide ((a:Int)+1<Int.ofNat as.length)):=by induction z using qd<;>exact⟨⋯,⋯,⋯⟩
theorem UQ(x:Val)(z:Bool)(a:Nat):pK (ah (F4 p wo K n k pre ⟨aa,t,ln,md,out,main⟩ ks ps as ov x a (lD z)) true) True as ((a:Int)+1):=by induction z using qd<;>exact⟨⋯,⋯⟩
theorem XC(x:Val)(z:Bool)(a:Nat)(kq:Str)(pq g2 b2:V):iz (bE (ah (F4 p wo K n k pre ⟨aa,t,ln,md,out,main⟩ ks ps as ov x a (lD z)) true) (jU (aj kq pq) g2 b2)) ((2:Nat)≤500∧True)
  (FF (.list pre [.loc 9,.loc (13+1)]) .none ⟨aa,t+1,ln,md,out,main⟩ (cT "casein" (fX (aj ks ps) as ov) (.str "matched") x ((a:Int)+1) 0 []++Kz 13 kq pq x.v)):=by induction z using qd<;>induction x using Val.casesOn<;>exact⟨⋯,⋯,⋯,⋯,⋯⟩
theorem XD(x:Val)(z:Bool)(a:Nat)(ko:Str)(po:V):iz (ah (F4 p wo K n k pre ⟨aa,t,ln,md,out,main⟩ ks ps as (aj ko po) x a (lD z)) false) ((2:Nat)≤500∧True)
  (FF (.list pre [.loc 9,.loc (13+1)]) .none ⟨aa,t+1,ln,md,out,main⟩ (cT "casein" (fX (aj ks ps) as (aj ko po)) (.str "end") x ((a:Int)+1) 0 []++[bx ko (aj ko po) (.int 0) (.loc (13+2)),.inst 463 13,.list [] []])):=by induction z using qd<;>exact⟨⋯,⋯,⋯,⋯,⋯⟩
theorem XE(x:Val)(z:Bool)(a:Nat)(f:Bool)(q:Nat→Addr):A5 (k+36) (ah (F4 p wo K n k pre ⟨aa,t,ln,nW f q,out,main⟩ ks ps as .none x a (lD z)) false) x True
  (FF (.list pre [.loc 9]) .none ⟨aa,t+1,ln,nW f q,out,main⟩ (cT "casein" (fX (aj ks ps) as .none) (.str "guard") x ((a:Int)+1) 0 []))
  (FF (.list pre []) (.loc 60) ⟨aa,t+1,ln+1+1+1+1+1+1+1,nW f q++sA 13,out,main⟩ (cT "casein" (fX (aj ks ps) as .none) (.str "guard") x ((a:Int)+1) 0 []++yb 13 ln q (eB x))):=by
 induction z using qd<;>induction f using qd<;>induction x using Val.casesOn<;>exact⟨⋯,⋯,⋯,⋯,⋯,⋯,⋯,⋯,⋯⟩
end
noncomputable def CM(c left:Nat):Nat:=22*left+(c+4)
section
variable{K:Frag}
theorem XF(rl:bK L k)(hX:∀b,aF L.env b→B.X b)(ok:aW 1 0 w)
  (h:∀u w',bO ([],.val x) 1 w u w'→At (az p wo K n) L 8 B (FF (.list pre []) u w' []) N):At (az p wo K n) L 8 B (FF (.list pre [.loc 9]) (aC "value" x.v) w (cT "casein" (fX sv as ov) (.str "end") ay a j vs)) (N+1):=by
 have ot:=ok.t;refine fR [] [.ok cZ ((.next,cH),FF (.list pre []) (.loc 14) {w with t:=w.t+1} (cT "casein" (fX sv as ov) (.str "end") ay a j vs++[dZ "value" x.v,.inst 441 13]))] rl hX (by assumption) (.ok bq ?_) (by induction x using Val.casesOn<;>kernel_rfl)
 refine fj (w:={w with t:=w.t+1}) (bh:=aC "value" x.v) (zs:=[14,13]) rfl (fun σ _=>eN (j:=14) (d:=13) (v:=x.v) (by exact ms) (by exact kI) rfl rfl (.closed (bN x))) ok.aa ok.md.closed (h _ _ ⟨rfl, ?_, ?_,.inl ok.md⟩)
 ·show w.aa=w.aa++[];exact(List.append_nil _).symm
 ·show w.t+1≤w.t+(1:Nat);simp
theorem Qy(rl:bK L k)(hX:∀b,aF L.env b→B.X b)(ok:aW (cb+1) R.1.length w0)
  (h:∀u w',bO R (cb+1) w0 u w'→At (az p wo K n) L 8 B (FF (.list pre []) u w' []) N):
  ∀bh w',bO R cb w0 bh w'→At (az p wo K n) L 8 B (FF (.list pre [.loc 9]) bh w' (cT "casein" (fX sv as ov) (.str "end") ay a j vs)) (N+1):=by
 intro bh w' en;have et:=en.t;have cl:=en.cl ok.aa;obtain⟨m1,w1⟩:=R;induction w1 using bu.casesOn with
 |raise z=>
  obtain⟨e,ce,ze,rfl⟩:=en.way;exact dI rl hX cl.1 cl.2 (h _ _ ⟨⟨e,ce,ze,rfl⟩,en.aa,by push_cast;lia,en.md⟩)
 |val x=>
  have hw:bh=aC "value" x.v:=en.way;subst hw;have fS:aW 1 0 w':=en.ok (c':=1) (m:=0) ok;refine XF rl hX fS fun u w2 cj=>h _ _ ⟨cj.way, ?_, ?_,cj.md⟩
  ·rw[cj.aa,en.aa];exact List.append_nil _
  ·have:=cj.t;push_cast at this⊢;lia
theorem ye{pb:V}{R:Rd}{sv ov:V}{as:List V}{ay:Val}{a j:Int}{xs:List Val}(rl:bK L k)(hX:∀b,aF L.env b→B.X b)(hp:pre.length+hb+1≤1000)
  (ev:iO (az p wo K n) L hb cb kb (aj kb pb) R)(ok:aW (cb+1) R.1.length w)(hz:tS ((8::9::tr)++[d,d+1,d+2]) []=true)(CV:tr.length=3)
  (hT:∀σ,uB (gC ((8::9::tr)++[d,d+1,d+2])) (· ∈[]) σ (FF (.list pre [.loc 9,.loc (d+1)]) .none w X) (8::9::tr) (cT "casein" (fX sv as ov) (.str "end") ay a j (xs.map Val.v)))
  (e0:(FF (.list pre [.loc 9,.loc (d+1)]) .none w X)[d]? =some (bx kb (aj kb pb) (.int 0) (.loc (d+2))))(e1:(FF (.list pre [.loc 9,.loc (d+1)]) .none w X)[d+1]? =some (.inst 463 d))(e2:(FF (.list pre [.loc 9,.loc (d+1)]) .none w X)[d+2]? =some (.list [] []))
  (h:∀u w',bO R (cb+1) w u w'→At (az p wo K n) L 8 B (FF (.list pre []) u w' []) N):fZ (az p wo K n) L B (N+1+cb) (FF (.list pre [.loc 9,.loc (d+1)]) .none w X):=
 gA (N:=N+1) (c:=cb) (T:=cT "casein" (fX sv as ov) (.str "end") ay a j (xs.map Val.v)) (node2:=aj kb pb) (tr:=tr) (zs:=[]) (d:=d) rl ev hX hp (ok.le (by exact pS) (qf _)) rfl hz (fun σ _=>hT σ) e0 e1 e2 (fun σ _=>.closed rfl) (nU rfl) (by rw[CV];rfl) (Qy rl hX ok h)
theorem Ig{arms rest:List (cL×Option Int×Tree d)}{x:Val}{r:aA cC}{p1:Prop}{sP:Str→V→St}(rl:bK L k)(hn:0<n)(fC:x.ok)(ha:arms.drop a'=rest)(hl:arms.length≤3)(bX:oJ arms)
  (F:kM r p1 (decide ((a':Int)<Int.ofNat (arms.map (dB (Tree.node d))).length)))(C9:p1)(P:pK (ah r true) True (arms.map (dB (Tree.node d))) (a':Int))
  (O:∀kq pq g b,iz (bE (ah r true) (jU (aj kq pq) g b)) ((2:Nat)≤500∧True) (sP kq pq))
  (T:∀q g b bf kq pq,rest=(q,g,b)::bf→w6 (az p wo K n) L 2 19 kq (aj kq pq) x (dQ (q.fits x))→fZ (az p wo K n) L B N (sP kq pq))
  (E:rest=[]→Gd (dS n) aI (ah r false) (ju (az p wo K n) L B N)):Gd (dS n) aI r (ju (az p wo K n) L B N):=by
 have lw:(arms.map (dB (Tree.node d))).length=arms.length:=List.length_map ..;induction rest using qh with
 |nil=>
  have la:¬a'<arms.length:=fun h=>by
   have:=congrArg List.length ha;simp at this;lia
  exact jT (c:=false) F C9 (decide_eq_false (by rw[lw];show¬(a':Int)<(arms.length:Int);lia)) (E rfl)
 |cons w bf=>
  obtain⟨q,g,b⟩:=w;have la:a'<arms.length:=by
   have:=congrArg List.length ha;simp at this;lia
  have ea:arms[a']? =some (q,g,b):=by
   have:=congrArg (·[0]?) ha
   simpa using this
  obtain⟨kq,pq,eq,ev⟩:=FP (p:=p) (wo:=wo) (K:=K) rl hn q (bX _ (qC ea)).1;refine jT (c:=true) F C9 (decide_eq_true (by rw[lw];show(a':Int)<(arms.length:Int);lia)) ?_;refine vn a' (jU (aj kq pq) (jd g) (Tree.node d b)) P rfl (by rw[List.getElem?_map,ea,←eq];rfl) (by lia) ?_;exact bC (O _ _ _ _) dJ (T q g b bf kq pq rfl (ev x fC))
end
noncomputable def NC(c left:Nat):Nat:=22*left+(c+1)
section
variable{K:Frag}
def vo(cx:Cx)(L:Lp)(B:Bs)(pre:LV)(ks:Str)(ps ov:V)(c:Nat){d:Nat}(arms:List (cL×Option Int×Tree d))(o:Option (Tree d))(x:Val)(a:Nat)(q:cL)(g:Option Int)(b:Tree d)(rest:List (cL×Option Int×Tree d)):Prop:=
 ∀N w0,aW (19+CM c rest.length) (cJ (Tree.rd d) x o ((q,g,b)::rest)).1.length w0→(∀u w',bO (cJ (Tree.rd d) x o ((q,g,b)::rest)) (19+CM c rest.length) w0 u w'→At cx L 8 B (FF (.list pre []) u w' []) N)→
  ∀u w',bO (dQ (q.fits x)) 19 w0 u w'→At cx L 8 B (FF (.list pre [.loc 9]) u w' (cT "casein" (fX (aj ks ps) (arms.map (dB (Tree.node d))) ov) (.str "matched") x a 0 [])) (N+CM c rest.length)
theorem Ih{α:Type}{rd:α→Rd}{x:Val}{o:Option α}{q:cL}{g:Option Int}{b:α}{rest:List (cL×Option Int×α)}:(dQ (q.fits x)).1.length≤(cJ rd x o ((q,g,b)::rest)).1.length:=by
 rw[cJ.eq_2];unfold dQ;induction q.fits x using qn with
 |mk m f=>induction f using fc.casesOn with
  |raise z=>exact qf _
  |val bb=>induction bb using qd with
   |false=>simp[Mine.Internal.after]
   |true=>induction g using qe with
    |none=>simp[Mine.Internal.after]
    |some i=>
     dsimp only;induction dM i using bu.casesOn with
     |raise z=>simp
     |val y=>
      dsimp only;by_cases hy:y.holds=true
      ·rw[if_pos hy];simp[Mine.Internal.after]
      ·rw[if_neg hy];simp[Mine.Internal.after]
theorem F5{pre:LV}{ks:Str}{ps ov:V}{d hg c a':Nat}{arms rest:List (cL×Option Int×Tree d)}{o:Option (Tree d)}{x:Val}(rl:bK L k)(hn:0<n)(hX:∀b,aF L.env b→B.X b)(eT:2≤hg)(hp:pre.length+hg+1≤1000)(fC:x.ok)(hD:8≤D)
  (ha:arms.drop a'=rest)(hl:arms.length≤3)(bX:oJ arms)(hO:ie (az p wo K n) L hg c d o ov)
  (F:kM r p1 (decide ((a':Int)<Int.ofNat (arms.map (dB (Tree.node d))).length)))(C9:p1)(P:pK (ah r true) True (arms.map (dB (Tree.node d))) (a':Int))
  (O:∀kq pq g b,iz (bE (ah r true) (jU (aj kq pq) g b)) ((2:Nat)≤500∧True) (FF (.list pre [.loc 9,.loc (13+1)]) .none ⟨aa,t,ln,md,out,main⟩ (cT "casein" (fX (aj ks ps) (arms.map (dB (Tree.node d))) ov) (.str "matched") x (a':Int) 0 []++Kz 13 kq pq x.v)))
  (OS:∀ko po,ov=aj ko po→iz (ah r false) ((2:Nat)≤500∧True) (FF (.list pre [.loc 9,.loc (13+1)]) .none ⟨aa,t,ln,md,out,main⟩ (cT "casein" (fX (aj ks ps) (arms.map (dB (Tree.node d))) ov) (.str "end") x (a':Int) 0 []++[bx ko (aj ko po) (.int 0) (.loc (13+2)),.inst 463 13,.list [] []])))
  (NO:∀f q,ov=.none→md=nW f q→∃mH,A5 D (ah r false) x True mH (FF (.list pre []) (.loc 60) ⟨aa,t,ln+1+1+1+1+1+1+1,nW f q++sA 13,out,main⟩ (cT "casein" (fX (aj ks ps) (arms.map (dB (Tree.node d))) .none) S x (a':Int) 0 []++yb 13 ln q (eB x))))
  (IH:∀q g b bf,rest=(q,g,b)::bf→vo (az p wo K n) L B pre ks ps ov c arms o x a' q g b bf)
  (ok:aW (NC c rest.length) (cJ (Tree.rd d) x o rest).1.length ⟨aa,t,ln,md,out,main⟩)(h:∀u w',bO (cJ (Tree.rd d) x o rest) (NC c rest.length) ⟨aa,t,ln,md,out,main⟩ u w'→At (az p wo K n) L 8 B (FF (.list pre []) u w' []) N):
  Gd (dS n) aI r (ju (az p wo K n) L B (N+NC c rest.length)):=by
 refine Ig rl hn fC ha hl bX F C9 P O (fun q g b bf kq pq e ev=> ?_) fun e=> ?_
 ·have cost:NC c rest.length=19+CM c bf.length:=by rw[e];unfold NC CM;simp only[List.length_cons];lia
  rw[cost]at ok h⊢;have go:=IH q g b bf e;rw[e]at ok h;refine(sr (N:=N+CM c bf.length) (c:=19) (T:=cT "casein" (fX (aj ks ps) (arms.map (dB (Tree.node d))) ov) (.str "matched") x (a':Int) 0 []) (tr:=[10,11,12]) (zs:=[]) (d:=13) rl ev hX (by lia) (ok.le (by exact mh) Ih) rfl rfl
   (fun σ _=>nV (xs:=[]) rfl rfl rfl rfl rfl rfl bY) rfl rfl rfl rfl rfl rfl (nU (xs:=[]) rfl) rfl (go N _ ok h)).le (by lia)
 ·subst e;have e1:cJ (Tree.rd d) x o []=lM (Tree.rd d) (.raise (jD x)) o:=rfl;rw[e1]at ok h;have c0:NC c ([]:List (cL×Option Int×Tree d)).length=c+1:=by simp[NC]
  rw[c0]at ok h⊢;rcases hO with⟨rfl,rfl⟩|⟨to,ko,po,rfl,rfl,eo⟩
  ·obtain⟨f,q,em⟩:=pR.get ok.md;have em:md=nW f q:=em;subst em;obtain⟨mH,FD⟩:=NO f q rfl rfl;refine(F3 (N:=N) FD hD hn fC trivial (Cb (cT "casein" (fX (aj ks ps) (arms.map (dB (Tree.node d))) .none) S x (a':Int) 0 []) ok.aa (vm f q) fun e lU ce er cd=>h _ _ ⟨⟨e,ce,er,rfl⟩, ?_, ?_,.inr ⟨cd,_,rfl⟩⟩)).mono fun q tq=>tq.le (by exact mh)
   ·show aa=aa++[];exact(List.append_nil _).symm
   ·show t≤t+((c+1:Nat):Int);omega
  ·exact(bC (OS ko po rfl) dJ (ye (tr:=[10,11,12]) (d:=13) (xs:=[]) rl hX (by assumption) eo ok rfl rfl (fun σ=>nV (xs:=[]) rfl rfl rfl rfl rfl rfl bY) rfl rfl rfl h)).mono fun q tq=>tq.le (by lia)
end
section
variable{K:Frag}
theorem bO.chain(e1:bO r1 c w0 u1 w1)(e2:bO R c2 w1 u w2)(h:c+c2≤cc):bO (Mine.Internal.after r1.1 R) cc w0 u w2:=
 ⟨e2.way,by rw[e2.aa,e1.aa,List.append_assoc,←List.map_append];rfl,by have:=e1.t;have:=e2.t;lia,e2.md⟩
theorem bO.Zw(e:bO R c {w with t:=w.t+1} u w'):bO R (c+1) w u w':=e.tick
noncomputable def vp(gi:Int)(b r:Rd):Rd:=match dM gi with
 |.raise z=>([Mark.guard gi],.raise z)
 |.val y=>if y.holds=true then Mine.Internal.after [Mark.guard gi] b else Mine.Internal.after [Mark.guard gi] r
theorem XG{α:Type}{rd:α→Rd}{x:Val}{o:Option α}{q:cL}{gi:Int}{b:α}{rest:List (cL×Option Int×α)}{m:List Mark}(h:q.fits x=(m,.val true)):cJ rd x o ((q,some gi,b)::rest)=Mine.Internal.after m (vp gi (rd b) (cJ rd x o rest)):=by
 rw[cJ.eq_2,h];unfold vp;dsimp only;induction dM gi using bu.casesOn with
 |raise z=>rfl
 |val y=>
  dsimp only;by_cases hy:y.holds=true
  ·rw[if_pos hy,if_pos hy];exact congrArg (Prod.mk · _) (List.append_assoc ..)
  ·rw[if_neg hy,if_neg hy];exact congrArg (Prod.mk · _) (List.append_assoc ..)
section
variable{arms:List (cL×Option Int×Tree d)}{rest:List (cL×Option Int×Tree d)}{a:Nat}{q:cL}{body:Tree d}{kb:Str}{pb:V}{w1:Ws}{gi:Int}
theorem UR(rl:bK L k)(hn:0<n)(hX:∀b,aF L.env b→B.X b)(eT:2≤hg)(hp:pre.length+hg+1≤1000)(fC:x.ok)(hl:arms.length≤3)(bX:oJ arms)(hO:ie (az p wo K n) L hg c d o ov)(la:a<arms.length)(ew:(arms.map (dB (Tree.node d)))[a]? =some xa)(eq:∃q g b,xa=jU q g b)(uE:arms.drop (a+1)=rest)
  (IH:∀q g b bf,rest=(q,g,b)::bf→vo (az p wo K n) L B pre ks ps ov c arms o x (a+1) q g b bf)(ok:aW (CM c rest.length) (cJ (Tree.rd d) x o rest).1.length w1)
  (h:∀u w2,bO (cJ (Tree.rd d) x o rest) (CM c rest.length) w1 u w2→At (az p wo K n) L 8 B (FF (.list pre []) u w2 []) N):At (az p wo K n) L 8 B (FF (.list pre [.loc 9]) (aC "value" (.bool false)) w1 (cT "casein" (fX (aj ks ps) (arms.map (dB (Tree.node d))) ov) (.str "matched") x a 0 [])) (N+CM c rest.length):=by
 obtain⟨qq,gg,bb,rfl⟩:=eq;have lw:(arms.map (dB (Tree.node d))).length=arms.length:=List.length_map ..;have hNC:NC c rest.length+3=CM c rest.length:=by unfold NC CM;lia
 obtain⟨aa,t,ln,md,out,main⟩:=w1;have ot:t+((CM c rest.length:Nat):Int)≤20000:=ok.t;refine At.le (N:=(N+NC c rest.length)+1) (by lia) ?_;refine ck rl hX (by rw[bU];exact mh) ?_;refine cy (t:=t) ⋯ (nd (p:=cZ) ⋯ bq) ⋯ (by lia) ?_;refine g9 _ (a:Int) a _ (uF x a false).1 (nd (uF x a false).2 dJ) rfl ew (by lia) ?_;exact F5 (D:=k+36) (S:=.str "matched") rl hn hX eT hp fC (by lia) uE hl bX hO (Xw x a _ _ _) ⟨by lia,trivial⟩ (UP x a _ _ _) (fun kq pq g b=>Xx x a _ _ _ kq pq g b) (fun ko po eo=>by subst eo;exact Xy x a _ _ _ ko po) (fun f qq e1 e2=>by subst e1 e2;exact⟨_,Xz x a _ _ _ f qq⟩) IH
  (ok.le (c':=NC c rest.length+1) (by lia) (qf _)).fK fun u w2 cj=>h _ _ (cj.tick.up (by lia))
theorem XH(rl:bK L k)(hX:∀b,aF L.env b→B.X b)(hp:pre.length+hg+1≤1000)(hl:arms.length≤3)(eb:iO (az p wo K n) L hg c kb (aj kb pb) (Tree.rd d body)){qv:V}(ew:(arms.map (dB (Tree.node d)))[a]? =some (jU qv .none (aj kb pb)))(hc:c+4≤CM c rest.length)(ok:aW (CM c rest.length) (Tree.rd d body).1.length w1)
  (h:∀u w2,bO (Tree.rd d body) (CM c rest.length) w1 u w2→At (az p wo K n) L 8 B (FF (.list pre []) u w2 []) N):At (az p wo K n) L 8 B (FF (.list pre [.loc 9]) (aC "value" (.bool true)) w1 (cT "casein" (fX (aj ks ps) (arms.map (dB (Tree.node d))) ov) (.str "matched") x a 0 [])) (N+CM c rest.length):=by
 have lw:(arms.map (dB (Tree.node d))).length=arms.length:=List.length_map ..;obtain⟨aa,t,ln,md,out,main⟩:=w1;have ot:t+((CM c rest.length:Nat):Int)≤20000:=ok.t;refine At.le (N:=(N+1+c)+1) (by lia) ?_;refine ck rl hX (by rw[bU];exact mh) ?_;refine cy (t:=t) ⋯ (nd (p:=cZ) ⋯ bq) ⋯ (by lia) ?_;refine g9 _ (a:Int) a _ (uF x a true).1 (nd (uF x a true).2 dJ) rfl ew (by lia) ?_;refine bC (Qw x a _ kb pb) dJ ?_;exact ye (tr:=[10,11,12]) (d:=13) (xs:=[]) rl hX hp eb (ok.le (c':=c+1+1) (by lia) (qf _)).fK rfl rfl (fun σ=>nV (xs:=[]) rfl rfl rfl rfl rfl rfl bY) rfl rfl rfl fun u w2 cj=>h _ _ (cj.tick.up (by lia))
theorem Zx(rl:bK L k)(hX:∀b,aF L.env b→B.X b)(hp:pre.length+hg+1≤1000)(hl:arms.length≤3)(eb:iO (az p wo K n) L hg c kb (aj kb pb) (Tree.rd d body))(ew:(arms.map (dB (Tree.node d)))[a]? =some (jU qv gv (aj kb pb))){y:Val}(hy:y.holds=true)(ok:aW (NC c rest.length+1) (Tree.rd d body).1.length w1)
  (h:∀u w2,bO (Tree.rd d body) (NC c rest.length+1) w1 u w2→At (az p wo K n) L 8 B (FF (.list pre []) u w2 []) N):At (az p wo K n) L 8 B (FF (.list pre [.loc 9]) (aC "value" y.v) w1 (cT "casein" (fX (aj ks ps) (arms.map (dB (Tree.node d))) ov) (.str "guard") x a 0 [])) (N+(NC c rest.length+1)):=by
 have lw:(arms.map (dB (Tree.node d))).length=arms.length:=List.length_map ..;have vK:c+1≤NC c rest.length:=by unfold NC;exact fG
 obtain⟨aa,t,ln,md,out,main⟩:=w1;have ot:t+((NC c rest.length+1:Nat):Int)≤20000:=ok.t;refine At.le (N:=(N+1+c)+1) (by lia) ?_;refine ck rl hX (by rw[bU];exact mh) ?_;refine cy (t:=t) ⋯ (nd (p:=cZ) ⋯ bq) ⋯ (by lia) ?_;refine g9 _ (a:Int) a _ (N5 x y hy a).1 (nd (N5 x y hy a).2 dJ) rfl ew (by lia) ?_;refine bC (Qx x y hy a _ _ kb pb) dJ ?_;exact ye (tr:=[10,11,12]) (d:=13) (xs:=[]) rl hX hp eb (ok.le (c':=c+1+1) (by lia) (qf _)).fK rfl rfl (fun σ=>nV (xs:=[]) rfl rfl rfl rfl rfl rfl bY) rfl rfl rfl fun u w3 vR=>h _ _ (vR.tick.up (by lia))
theorem Zy(rl:bK L k)(hn:0<n)(hX:∀b,aF L.env b→B.X b)(eT:2≤hg)(hp:pre.length+hg+1≤1000)(fC:x.ok)(hl:arms.length≤3)(bX:oJ arms)(hO:ie (az p wo K n) L hg c d o ov)(la:a<arms.length)(uE:arms.drop (a+1)=rest){y:Val}(hy:y.holds=false)
  (IH:∀q g b bf,rest=(q,g,b)::bf→vo (az p wo K n) L B pre ks ps ov c arms o x (a+1) q g b bf)(ok:aW (NC c rest.length+1) (cJ (Tree.rd d) x o rest).1.length w1)
  (h:∀u w2,bO (cJ (Tree.rd d) x o rest) (NC c rest.length+1) w1 u w2→At (az p wo K n) L 8 B (FF (.list pre []) u w2 []) N):At (az p wo K n) L 8 B (FF (.list pre [.loc 9]) (aC "value" y.v) w1 (cT "casein" (fX (aj ks ps) (arms.map (dB (Tree.node d))) ov) (.str "guard") x a 0 [])) (N+(NC c rest.length+1)):=by
 have lw:(arms.map (dB (Tree.node d))).length=arms.length:=List.length_map ..;obtain⟨zf,ef⟩:=FZ hy;obtain⟨aa,t,ln,md,out,main⟩:=w1;have ot:t+((NC c rest.length+1:Nat):Int)≤20000:=ok.t;rw[ef];refine ck rl hX (by rw[bU];exact mh) ?_;refine cy (t:=t) (by induction zf using qd<;>kernel_rfl) (nd (p:=cZ) (by induction zf using qd<;>kernel_rfl) bq) (by induction zf using qd<;>kernel_rfl) (by lia) ?_
 exact F5 (D:=k+36) (S:=.str "guard") rl hn hX eT hp fC (by lia) uE hl bX hO (XA x zf a) ⟨by decide,by lia,trivial⟩ (UQ x zf a) (fun kq pq g b=>XC x zf a kq pq g b) (fun ko po eo=>by subst eo;exact XD x zf a ko po) (fun f qq e1 e2=>by subst e1 e2;exact⟨_,XE x zf a f qq⟩) IH
  ok.fK fun u w3 vR=>h _ _ vR.tick
theorem XI(rl:bK L k)(hn:0<n)(hX:∀b,aF L.env b→B.X b)(eT:2≤hg)(hp:pre.length+hg+1≤1000)(fC:x.ok)(hl:arms.length≤3)(bX:oJ arms)(hO:ie (az p wo K n) L hg c d o ov)(la:a<arms.length)(uE:arms.drop (a+1)=rest)(Nb:oH (some gi))
  (eb:iO (az p wo K n) L hg c kb (aj kb pb) (Tree.rd d body))(ew:(arms.map (dB (Tree.node d)))[a]? =some (jU qv (jd (some gi)) (aj kb pb)))(IH:∀q g b bf,rest=(q,g,b)::bf→vo (az p wo K n) L B pre ks ps ov c arms o x (a+1) q g b bf)
  (ok:aW (CM c rest.length) (vp gi (Tree.rd d body) (cJ (Tree.rd d) x o rest)).1.length w1)
  (h:∀u w2,bO (vp gi (Tree.rd d body) (cJ (Tree.rd d) x o rest)) (CM c rest.length) w1 u w2→At (az p wo K n) L 8 B (FF (.list pre []) u w2 []) N):At (az p wo K n) L 8 B (FF (.list pre [.loc 9]) (aC "value" (.bool true)) w1 (cT "casein" (fX (aj ks ps) (arms.map (dB (Tree.node d))) ov) (.str "matched") x a 0 [])) (N+CM c rest.length):=by
 have lw:(arms.map (dB (Tree.node d))).length=arms.length:=List.length_map ..;have hNC:NC c rest.length+3=CM c rest.length:=by unfold NC CM;lia
 have lg:1≤(vp gi (Tree.rd d body) (cJ (Tree.rd d) x o rest)).1.length:=by
  unfold vp;induction dM gi using bu.casesOn with
  |raise z=>exact qf _
  |val y=>by_cases hy:y.holds=true<;>simp[hy,Mine.Internal.after]
 have ot:w1.t+((CM c rest.length:Nat):Int)≤20000:=ok.t;refine At.le (N:=(N+(NC c rest.length+1)+1)+1) (by lia) ?_;refine ck rl hX (by rw[bU];exact mh) ?_;refine cy (t:=w1.t) ⋯ (nd (p:=cZ) ⋯ bq) ⋯ (by lia) ?_;refine g9 _ (a:Int) a _ (uF x a true).1 (nd (uF x a true).2 dJ) rfl ew (by lia) ?_;refine bC (N4 x a _ _ gi) dJ ?_;refine gA (N:=N+(NC c rest.length+1)) (c:=1) (w:={w1 with t:=w1.t+1}) (T:=cT "casein" (fX (aj ks ps) (arms.map (dB (Tree.node d))) ov) (.str "guard") x a 0 []) (node:=jd (some gi)) (node2:=jd (some gi)) (tr:=[10,11,12]) (zs:=[]) (d:=13) rl (Qh rl hn Nb) hX (by lia) (aW.tick (ok.le (c':=1+1) (by lia) lg)) (pQ _) rfl
  (fun σ _=>nV (xs:=[]) rfl rfl rfl rfl rfl rfl bY) rfl rfl rfl (fun σ _=>.closed (pQ _)) (nU (xs:=[]) rfl) rfl fun u2 w2 e2=> ?_
 have e3:=e2.Zw;have w7:=e3.cl ok.aa;have pJ:oZ (dM gi) u2:=e2.way;unfold vp at ok h;rcases hg:dM gi with y|z
 ·rw[hg]at pJ ok h;rw[show u2=aC "value" y.v from pJ]at e3⊢;dsimp only at ok h;by_cases hy:y.holds=true
  ·rw[if_pos hy]at ok h;exact Zx rl hX hp hl eb ew hy (e3.ok (c':=NC c rest.length+1) (by exact ok.le (by lia) (qH List.length_append.symm))) fun u w3 vR=>h _ _ (e3.chain vR (by lia))
  ·rw[if_neg hy]at ok h;exact Zy rl hn hX eT hp fC hl bX hO la uE (by simpa using hy) IH (e3.ok (c':=NC c rest.length+1) (by exact ok.le (by lia) (qH List.length_append.symm))) fun u w3 vR=>h _ _ (e3.chain vR (by lia))
 ·rw[hg]at h pJ;obtain⟨e,ce,ze,rfl⟩:=pJ;exact At.le (N:=N+1) (by lia) (dI rl hX w7.1 w7.2 (h _ _ ⟨⟨e,ce,ze,rfl⟩,e3.aa,by have:=e3.t;lia,e3.md⟩))
theorem N6(rl:bK L k)(hn:0<n)(hX:∀b,aF L.env b→B.X b)(eT:2≤hg)(hp:pre.length+hg+1≤1000)(fC:x.ok)
  (HB:gJ (az p wo K n) L hg c d)(hl:arms.length≤3)(bX:oJ arms)(hO:ie (az p wo K n) L hg c d o ov)(ha:arms.drop a=(q,g,body)::rest)
  (IH:∀q g b bf,rest=(q,g,b)::bf→vo (az p wo K n) L B pre ks ps ov c arms o x (a+1) q g b bf):vo (az p wo K n) L B pre ks ps ov c arms o x a q g body rest:=by
 have la:a<arms.length:=by
  have:=congrArg List.length ha;simp at this;lia
 have ea:arms[a]? =some (q,g,body):=by
  have:=congrArg (·[0]?) ha
  simpa using this
 have uE:arms.drop (a+1)=rest:=by rw[←List.drop_drop,ha];rfl
 obtain⟨HN,Nb,eL⟩:=bX _ (qC ea);obtain⟨kb,pb,en,eb⟩:=HB body eL;have ew:(arms.map (dB (Tree.node d)))[a]? =some (jU q.node (jd g) (aj kb pb)):=by rw[List.getElem?_map,ea,←en];rfl
 have hc:c+4≤CM c rest.length:=by unfold CM;exact fG
 intro N w0 ok h u w' e0;have hw:=e0.way;have cl:=e0.cl ok.aa;have hR:=cJ.eq_2 (Tree.rd d) x o q g body rest;rcases hf:q.fits x with⟨m,bb|z⟩
 ·rw[hf]at e0 hw hR;rw[show u=aC "value" (.bool bb)from hw]at e0⊢;induction bb using qd with
  |false=>
   rw[hR]at ok h;exact UR rl hn hX eT hp fC hl bX hO la ew ⟨_,_,_,rfl⟩ uE IH (e0.ok (v:=.bool false) (by simpa[dQ,Mine.Internal.after]using ok)) fun u w2 e2=>h _ _ (e0.chain e2 (qf _))
  |true=>
   induction g using qe with
   |none=>
    rw[hR]at ok h;exact XH rl hX hp hl eb ew hc (e0.ok (v:=.bool true) (by simpa[dQ,Mine.Internal.after]using ok)) fun u w2 e2=>h _ _ (e0.chain e2 (qf _))
   |some gi=>
    rw[XG hf]at ok h;exact XI rl hn hX eT hp fC hl bX hO la uE Nb eb ew IH (e0.ok (v:=.bool true) (by simpa[dQ,Mine.Internal.after]using ok)) fun u w2 e2=>h _ _ (e0.chain e2 (qf _))
 ·rw[hf]at e0 hw hR;rw[hR]at h;obtain⟨e,ce,ze,rfl⟩:=hw;exact At.le (N:=N+1) (by unfold CM;lia) (dI rl hX cl.1 cl.2 (h _ _ ⟨⟨e,ce,ze,rfl⟩,e0.aa,by have:=e0.t;lia,e0.md⟩))
end
theorem US(rl:bK L k)(hn:0<n)(hX:∀b,aF L.env b→B.X b)(eT:2≤hg)(hp:pre.length+hg+1≤1000)(fC:x.ok)
  (HB:gJ (az p wo K n) L hg c d)(hl:arms.length≤3)(bX:oJ arms)(hO:ie (az p wo K n) L hg c d o ov):
  ∀(rest:List (cL×Option Int×Tree d)) (a:Nat) (q:cL) (g:Option Int) (body:Tree d),arms.drop a=(q,g,body)::rest→vo (az p wo K n) L B pre ks ps ov c arms o x a q g body rest:=by
 intro rest;induction rest with
 |nil=>exact fun a q g body ha=>N6 rl hn hX eT hp fC HB hl bX hO ha fun _ _ _ _ e=>nomatch e
 |cons w rest ih=>
  refine fun a q g body ha=>N6 rl hn hX eT hp fC HB hl bX hO ha fun q2 g2 b2 bf e=> ?_;cases e
  exact ih (a+1) q2 g2 b2 (by rw[←List.drop_drop,ha];rfl)
theorem Qz(rl:bK L k)(hn:0<n)(hX:∀b,aF L.env b→B.X b)(eT:2≤hg)(hp:pre.length+hg+1≤1000)(fC:x.ok)
  (HB:gJ (az p wo K n) L hg c d)(hl:arms.length≤3)(bX:oJ arms)(hO:ie (az p wo K n) L hg c d o ov):
  Runs (az p wo K n) L B pre (fun w=>FF (.list pre [.loc 9]) (aC "value" x.v) w (tT "casein" (fX (aj ks ps) (arms.map (dB (Tree.node d))) ov) (.str "subject"))) (cJ (Tree.rd d) x o arms) (c+112):=by
 have lw:(arms.map (dB (Tree.node d))).length=arms.length:=List.length_map ..;have nw:(arms.map (dB (Tree.node d))).length+1≤500:=by lia
 intro N w ok h;obtain⟨aa,t,ln,md,out,main⟩:=w;have ot:t+((c+112:Nat):Int)≤20000:=ok.t;refine At.le (N:=N+(c+111)+1) (by exact iR) ?_;refine ck rl hX (by show 8≤(FF _ _ _ _).length;rw[bU];exact fG) ?_;refine cy (t:=t) (by induction x using Val.casesOn<;>kernel_rfl) (nd (p:=cZ) (by induction x using Val.casesOn<;>kernel_rfl) bq) (by induction x using Val.casesOn<;>kernel_rfl) (by lia) ?_
 refine Ig (arms:=arms) (a':=0) (rest:=arms) rl hn fC rfl hl bX (Xq x) ⟨by decide,nw,trivial⟩ (Xr x) (fun kq pq g b=>Xs x kq pq g b) (fun q g b bf kq pq e ev=> ?_) fun e=> ?_
 ·subst e;have lr:bf.length≤2:=by simp at hl;assumption
  have cm:19+CM c bf.length≤c+111:=by unfold CM;lia
  have sW:aW (19+CM c bf.length) (cJ (Tree.rd d) x o ((q,g,b)::bf)).1.length ⟨aa,t+1,ln,md,out,main⟩:=(ok.le (c':=19+CM c bf.length+1) (by exact Nat.lt_succ_of_le ‹_›) (qf _)).fK;refine(sr (N:=N+CM c bf.length) (c:=19) (w:=⟨aa,t+1,ln,md,out,main⟩) (T:=cT "casein" (fX (aj ks ps) (((q,g,b)::bf).map (dB (Tree.node d))) ov) (.str "matched") x 0 0 []) (tr:=[11,12,13]) (zs:=[]) (d:=14) rl ev hX (by lia) (sW.le (by exact mh) Ih) rfl rfl
   (fun σ _=>sy rfl rfl rfl rfl rfl rfl bY) rfl rfl rfl rfl rfl rfl (nU (xs:=[]) rfl) rfl (US rl hn hX eT hp fC HB hl bX hO bf 0 q g b rfl N _ sW fun u w' e=>h u w' (e.tick.up (by lia)))).le (by lia)
 ·subst e;have h:∀u w',bO (lM (Tree.rd d) (.raise (jD x)) o) (c+112) ⟨aa,t,ln,md,out,main⟩ u w'→At (az p wo K n) L 8 B (FF (.list pre []) u w' []) N:=h;have ok:aW (c+112) (lM (Tree.rd d) (.raise (jD x)) o).1.length ⟨aa,t,ln,md,out,main⟩:=ok;rcases hO with⟨rfl,rfl⟩|⟨to,ko,po,rfl,rfl,eo⟩
  ·obtain⟨f,q,em⟩:=pR.get ok.md;have em:md=nW f q:=em;subst em;refine(F3 (N:=N) (Xv x f q) (by exact fG) hn fC trivial (Cb (cM "casein" (fX (aj ks ps) (([]:List (cL×Option Int×Tree d)).map (dB (Tree.node d))) .none) (.str "subject") x 0 0) ok.aa (vm f q) fun e lU ce er cd=>h _ _ ⟨⟨e,ce,er,rfl⟩, ?_, ?_,.inr ⟨cd,_,rfl⟩⟩)).mono fun q tq=>tq.le (by exact mh)
   ·show aa=aa++[];exact(List.append_nil _).symm
   ·show t+1≤t+((c+112:Nat):Int);lia
  ·exact(bC (Xu x ko po) dJ (ye (tr:=[11,12,13]) (d:=14) (xs:=[]) rl hX hp eo ((ok.le (c':=c+1+1) (by simp) (qf _)).fK) rfl rfl (fun σ=>sy rfl rfl rfl rfl rfl rfl bY) rfl rfl rfl fun u w' e=>h u w' (e.tick.up (by lia)))).mono fun q tq=>tq.le (by lia)
theorem QA(rl:bK L k)(hn:0<n)(eT:2≤hg)(HB:gJ (az p wo K n) L hg c d)(hl:arms.length≤3)(bX:oJ arms)(hO:ie (az p wo K n) L hg c d o ov)
  (iU:CR R.2)(hs:iO (az p wo K n) L hg c ks (aj ks ps) R):
  iO (az p wo K n) L (hg+2) (2*c+113) "casein" (fX (aj ks ps) (arms.map (dB (Tree.node d))) ov) (cY R fun x=>cJ (Tree.rd d) x o arms):=by
 intro w ok B pre N hX hp h;obtain⟨m1,w1⟩:=R;have ot:=ok.t;have l1:m1.length≤(cY (m1,w1) fun x=>cJ (Tree.rd d) x o arms).1.length:=by
  induction w1 using bu.casesOn with
  |raise z=>exact qf _
  |val x=>simp[cY,Mine.Internal.after]
 refine At.le (N:=(N+(c+112)+c)+1) (by lia) ?_;refine fR [] [.ok ((2:Nat)≤500∧(2:Nat)≤500∧True) ((.next,cH),FF (.list pre [.loc 9,.loc (11+1)]) .none {w with t:=w.t+1} (tT "casein" (fX (aj ks ps) (arms.map (dB (Tree.node d))) ov) (.str "subject")++[bx ks (aj ks ps) (.int 0) (.loc (11+2)),.inst 463 11,.list [] []]))] rl hX (by lia) (.ok ⟨by decide,dJ⟩ ?_) ⋯;refine gA (N:=N+(c+112)) (c:=c) (w:={w with t:=w.t+1}) (T:=tT "casein" (fX (aj ks ps) (arms.map (dB (Tree.node d))) ov) (.str "subject")) (node2:=aj ks ps) (tr:=[10]) (zs:=[]) (d:=11) rl hs hX (by exact qG ‹_›) (aW.tick (ok.le (by lia) l1)) rfl rfl
  (fun σ _=>uD rfl rfl rfl rfl bY) rfl rfl rfl (fun σ _=>.closed rfl) (uC rfl) rfl (fun bh w' en=> ?_)
 have et:w'.t≤w.t+1+c:=en.t;induction w1 using bu.casesOn with
 |raise z=>
  have cl:=en.cl ok.aa;obtain⟨e,ce,ze,rfl⟩:=en.way;exact At.le (N:=N+1) (by lia) (dI rl hX cl.1 cl.2 (h _ _ ⟨⟨e,ce,ze,rfl⟩,en.aa,by push_cast;lia,en.md⟩))
 |val x=>
  have fC:x.ok:=iU;have hw:bh=aC "value" x.v:=en.way;subst hw;have fS:aW (c+112) (cJ (Tree.rd d) x o arms).1.length w':=en.ok (c':=c+112) (aW.tick (ok.le (by lia) (by simp[cY,Mine.Internal.after])));refine Qz rl hn hX eT (by lia) fC HB hl bX hO N w' fS fun u w2 cj=>h _ _ ⟨cj.way, ?_, ?_,cj.md⟩
  ·rw[cj.aa,en.aa];simp[cY,Mine.Internal.after]
  ·have:=cj.t;push_cast at this⊢;lia
end
noncomputable def cB:Nat→Nat
 |0=>1
 |d+1=>2*cB d+113
theorem iO.le(ev:iO cx L hg n kind node r)(h1:hg≤W9)(h2:n≤n'):iO cx L W9 n' kind node r:=fun w ok B pre N hX hp h=>
 At.le (N:=N+n) (by exact qu ‹_› _) (ev w (ok.le h2 (qf _)) B pre N hX (by lia) fun u w' en=>h u w' (en.up h2))
section
variable{p:Program}{wo:World}{K:Frag}
theorem F6(HB:gJ (az p wo K n) L hg c d)(h:oS (Tree.ok d) o):ie (az p wo K n) L hg c d o (mX (Tree.node d) o):=by
 induction o using qe with
 |none=>exact .inl ⟨rfl,rfl⟩
 |some t=>
  obtain⟨kb,pb,e,ev⟩:=HB t h;exact .inr ⟨t,kb,pb,rfl,e,ev⟩
theorem XJ(rl:bK L k)(hn:0<n)(d:Nat):gJ (az p wo K n) L (2+2*d) (cB d) d:=by
 induction d with
 |zero=>
  intro t ok;have ev:=vh (p:=p) (wo:=wo) (K:=K) rl hn t ok;have hk:Tree.node 0 t=aH.node t:=rfl;obtain⟨kb,pb,e,ev⟩:=B9 (p:=p) (wo:=wo) (K:=K) rl hn t ok;exact⟨kb,pb,e,ev.le (by exact fG) (qf _)⟩
 |succ d HB=>
  intro(t:Tr (Tree d)) ok;have hc:1≤cB d:=by induction d using qk<;>simp[cB]
  have hb:cB (d+1)=2*cB d+113:=rfl;have h2:2+2*(d+1)=(2+2*d)+2:=by exact(Nat.add_assoc _ _ _).symm
  rw[hb,h2];induction t using Tr.casesOn with
  |leaf l=>
   obtain⟨kb,pb,e,ev⟩:=B9 (p:=p) (wo:=wo) (K:=K) rl hn l ok;exact⟨kb,pb,e,ev.le (by exact nz) (by exact rB)⟩
  |jR s ws o=>
   induction s using qe with
   |none=>exact⟨"case",_,rfl,Xp rl hn (by exact mh) HB ok.2.1.1 ok.2.1.2 (F6 HB ok.2.2)⟩
   |some s=>
   obtain⟨ks,ps,e,es⟩:=HB s ok.1;have key:=Xo rl hn (by lia) HB ok.2.1.1 ok.2.1.2 (F6 HB ok.2.2) (mE ok.1).w.w es;exact⟨"case",_,by show aj "case" (.tup [Tree.node d s,_,_])=_;rw[e],key⟩
  |jB s as o=>
   obtain⟨ks,ps,e,es⟩:=HB s ok.1;have key:=QA rl hn (by lia) HB ok.2.1.1 ok.2.1.2 (F6 HB ok.2.2) (mE ok.1).w.w es;exact⟨"casein",_,by show aj "casein" (.tup [Tree.node d s,_,_])=_;rw[e],key⟩
  |j7 s q=>
   obtain⟨ks,ps,e,es⟩:=HB s ok.1;obtain⟨kq,pq,eq,XK⟩:=FP (p:=p) (wo:=wo) (K:=K) rl hn q ok.2;have key:=Ka (q:=q) rl (by lia) (mE ok.1).w.w es XK;exact⟨"matchp",_,by show aj "matchp" (.tup [Tree.node d s,q.node])=_;rw[e,eq],key.le (by exact pS) (by lia)⟩
  |jC s q=>
   obtain⟨ks,ps,e,es⟩:=HB s ok.1;obtain⟨kq,pq,eq,XK⟩:=FP (p:=p) (wo:=wo) (K:=K) rl hn q ok.2;have key:=Ke (q:=q) rl hn (by lia) (mE ok.1).w.w es XK;exact⟨"matchq",_,by show aj "matchq" (.tup [Tree.node d s,q.node])=_;rw[e,eq],key.le (by lia) (by lia)⟩
end
theorem N7{st:St}{b:Bool}{x:Str}{w:V}{m:ai}:∀{m':ai},mF c aD z σ st b m m'→lk x m'=some w→∃v,lk x m=some v∧Fw c aD z σ st b v w:=by
 induction m with
 |nil=>intro m' h e;cases h;exact nn e
 |cons p m ih=>
  intro m' h e;cases h with
  |cons h r=>
   refine jh e (fun q e=>⟨_,rH q,qc e▸h⟩) fun q e=> ?_;obtain⟨v',e',h'⟩:=ih r e;exact⟨v',Eq.trans (m7 (by exact q)) e',h'⟩
theorem av.vq{σ:Nat→Addr}{st:St}{c:Nat}{aD:List Nat}{z:Nat→Prop}{h:Heap}(l:av P fe m env I σ st.length h)(r:cG P I σ st h)(hm:mF c aD z σ st false m m')(hf:fe.free=[])
  (fx:∀k,k<c→aD[k]? =some k)(lt:∀(j k:Nat),aD[j]? =some k→k<st.length):av P fe m' env (c9 I σ z st.length h) (dY aD σ) aD.length h:=by
 have up:∀{v w:V} {y:Value},Fw c aD z σ st false v w→aq I P σ st.length v y→aq (c9 I σ z st.length h) P (dY aD σ) aD.length w y:=fun f q=>FA (m:=false) r fx f q;refine⟨l.scope,l.kind,l.glob,l.blt, ?_,fun x v e hk=> ?_,l.there,fun x v e=> ?_,fun b hb=>⟨?_,fun j hj=> ?_⟩,l.ne,l.inj⟩
 ·obtain⟨mm,h1,h2⟩:=l.ns;refine⟨mm,h1,fun x v e hk=> ?_⟩;obtain⟨v0,e0,f⟩:=N7 hm e;obtain⟨y,e1,r⟩:=h2 x v0 e0 hk;exact⟨y,e1,up f r⟩
 ·obtain⟨v0,e0,f⟩:=N7 hm e;obtain⟨d,y,h1,h2,r⟩:=l.cell x v0 e0 hk;exact⟨d,y,h1,h2,up f r⟩
 ·rw[hf]at e;exact nn e
 ·obtain⟨h1,h2⟩:=l.apart b hb;induction q:c9 I σ z st.length h b using qe with
  |none=>rfl
  |some o=>
   rcases gR q with q|⟨_,_,k,_,hk,e⟩
   ·rw[h1]at q;exact nn q
   ·exact absurd e (h2 k hk)
 ·have ej:aD[j]? =some aD[j]:=qw hj;rw[eF ej];exact(l.apart b hb).2 _ (lt j _ ej)
set_option genInjectivity false in
structure LW where
 k:Nat
 A:Around
 fe:FE
 env:Env
 Q:Flow→SP
 E:dU
 T:Addr
noncomputable def bL(p:Program)(w:World)(K:Frag):Cx:=kL p w (fun _ _ _ _ _=>False) aI [] K
theorem iI.cx{p:Program}{w:World}{K:Frag}(b:iI (kL p w S pre as K) I):iI (kL p w S' JT Sx K) I:=⟨b.glob,b.lim,b.fns,b.K,b.tabs,b.tK⟩
theorem au.cx{w:World}{K:Frag}{S S':Spec}{pre JT:Nat→Addr→List V→St→Prop}{as Sx:List Addr}{k:Nat}{A:Around}{I:IM}{σ:Nat→Addr}{st:St}{s:Shared}(b:au (kL p w S pre as K) k A I σ st s):au (kL p w S' JT Sx K) k A I σ st s:=⟨b.fit,b.base.cx,b.rel⟩
structure mZ (L:LW) (f:Bool) (I:IM) (σ:Nat→Addr) (n:Nat) (s:Shared):Prop where
 i:I L.T=none
 sg:∀j,j<n→σ j≠L.T
 o:¬aF L.env L.T
 t:∃ps,s.heap.get? L.T=some (tabObj ps)∧(f=true→ps= #[])
theorem mZ.go(t:mZ L f I σ n s)(x:aM P X I σ n s.heap I' af st' s'.heap)(hX:¬X L.T):mZ L f I' af st'.length s':=by
 obtain⟨ps,e,hp⟩:=t.t;refine⟨?_,fun j hj=> ?_,t.o,ps,x.keep _ _ e hX t.sg,hp⟩
 ·induction q:I' L.T using qe with
  |none=>rfl
  |some o=>
   rcases x.fresh _ o q with q|q
   ·rw[t.i]at q;exact nn q
   ·rw[e]at q;exact ns q
 ·by_cases h:j<n
  ·rw[x.le.s j h];exact t.sg j h
  ·intro z;have:=x.new j (qA h) hj;rw[z,e]at this;exact ns this
theorem mZ.choose{L:LW}{f:Bool}{I:IM}{σ:Nat→Addr}{st:St}(t:mZ L f I σ st.length s)(fw:nR c aD z σ st st'):mZ L f (c9 I σ z st.length s.heap) (dY aD σ) st'.length s:=by
 refine⟨?_,fun j hj=> ?_,t.o,t.t⟩
 ·induction q:c9 I σ z st.length s.heap L.T using qe with
  |none=>rfl
  |some o=>
   rcases gR q with q|⟨_,_,k,_,hk,e⟩
   ·rw[t.i]at q;exact nn q
   ·exact absurd e (t.sg k hk)
 ·have LD:j<aD.length:=by rw[←fw.len];exact hj
  have ej:aD[j]? =some aD[j]:=qw LD;rw[eF ej];exact t.sg _ (fw.lt j _ ej).1
structure gZ (p:Program) (w:World) (K:Frag) (L:LW) (B:Bs) (f:Bool) (st:St) (m:ai) (rest:List Stmt):Prop where
 out:∀I σ s,fJ 0 B I σ st.length s→au (bL p w K) L.k L.A I σ st s→av w.params L.fe m L.env I σ st.length s.heap→mZ L f I σ st.length s→wpAny (model p w) L.A (execs rest L.env) L.Q L.E s
theorem Ii{w:World}{K:Frag}{S:Spec}{as:List Addr}{ev:Ev}{L:LW}{B:Bs}{f:Bool}{st:St}{m:ai}{x:Stmt}{rest:List Stmt}(Sd:aU (kL p w S aI as K) ev)(hX:∀b,aF L.env b→B.X b)(hf:L.fe.free=[])
  (g:Gd S aI (iA (kL p w S aI as K) ev L.k L.fe m st x) fun q=>q.1.1=.next∧∀σ,(∀k,k<q.2.length→σ k≠sysModules)→∃aD z st' m',nR 0 aD z σ q.2 st'∧mF 0 aD z σ q.2 false q.1.2 m'∧gZ p w K L B f st' m' rest):
  gZ p w K L B f st m (x::rest):=by
 refine⟨fun I σ s W H l ti=> ?_⟩;have H':au (kL p w S aI as K) L.k L.A I σ st s:=H.cx;refine wpAny_execs_cons (mW Sd H' l (Good.mono (fun q gq dj bH f br bQ cK ro=> ?_) g.out));obtain⟨⟨out,m₂⟩,bW⟩:=q;obtain⟨ro,dX⟩:=ro;obtain⟨e1,gq⟩:=gq;cases e1
 obtain rfl:=ro;have cP:au (kL p w S aI as K) L.k L.A dj bH bW br:=H'.go bQ;obtain⟨aD,z,st',m',fw,fm,at'⟩:=gq bH fun k hk q=>by
  obtain⟨o,ho⟩:=cP.base.tK;have:=cP.rel.out k hk;rw[q,ho]at this;exact ns this
 refine at'.out _ _ br (W.choose (qm _) hX bQ cK fw) ⟨H.fit,(cP.base.mono fT).cx,cP.rel.choose fw⟩ ?_ ((ti.go bQ ti.o).choose fw);rw[fw.len];exact dX.vq cP.rel fm hf fw.vc fun j k e=>(fw.lt j k e).1
noncomputable def fq(i:Nat):Stmt:=match di (jH rU) i with
 |some s=>s
 |none=>.Pass default
noncomputable def bP:FE:=⟨rU.scope,[]⟩
section
variable{K:Frag}
noncomputable abbrev XM(p:Program)(w:World)(K:Frag)(k:Nat)(ns:List Int):ig:=iA (bL p w K) (cX (bL p w K) 60) (k+100) bP [("script",.lst (ns.map V.num))] [] (fq 0)
noncomputable abbrev Zz(p:Program)(w:World)(K:Frag)(k:Nat)(ns G:List Int):ig:=i9 (XM p w K k ns) ((.next,[]),[.list [] (G.map V.num)])
theorem N8{ns:List Int}{i:Int}{G:List Int}(hG:G.length<24)(h1:Q ((.next,[(("cell":Str),.num i)]),[.list [] (G.map V.num++[.num (Ef i-10^18)])]))(h2:Q ((.next,[(("cell":Str),.num i)]),[.list [] (G.map V.num)])):
  Gd (fun _ _ _ _ _=>False) aI (i8 (XM p w K k ns) (.num i) [] [.list [] (G.map V.num)]) Q:=by
 refine ur ⋯ (nd (p:=((0:Int)≤18∧((Builtin.Int.intBits 10:Nat):Int)*18≤2^27)∧True) ⋯ ⟨⟨by decide,by decide+kernel⟩,trivial⟩) fun c hc=> ?_;induction c using qd with
 |true=>exact kK (a:=((.next,[(("cell":Str),.num i)]),[.list [] (G.map V.num++[.num (Ef i-10^18)])])) ⋯ (nd (p:=((0:Int)≤18∧((Builtin.Int.intBits 10:Nat):Int)*18≤2^27)∧(G.map V.num).length+1≤500∧True) ⋯ ⟨⟨by decide,by decide+kernel⟩,by rw[List.length_map];exact vV ‹_›,trivial⟩) h1
 |false=>exact kK (a:=((.next,[(("cell":Str),.num i)]),[.list [] (G.map V.num)])) ⋯ (gW ⋯) h2
noncomputable def KA(ns G:List Int)(sd:V):ai:=[("script",.lst (ns.map V.num)),("great",.loc 0),("seed",sd)]
theorem De(a:Int):(decide (Builtin.Int.intBits a>shortFactorBits)&&decide (Builtin.Int.intBits 48271>shortFactorBits)&&Builtin.Int.intTooBig ((Builtin.Int.intBits a:Int)+(Builtin.Int.intBits 48271:Int)))=true→False:=by
 have h:decide (Builtin.Int.intBits 48271>shortFactorBits)=false:=⋯;rw[h];simp
theorem N9{ns G:List Int}{i sd:Int}(hv:v=.int sd∨v=.num sd)(h1:Q ((.next,KA ns G (.num (Int.fmod (sd*48271+i) 2147483629))++[(("cell":Str),.num i)]),[.list [] (G.map V.num)])):
  Gd (fun _ _ _ _ _=>False) aI (i8 (Zz p w K k ns G) (.num i) (KA ns G v) [.list [] (G.map V.num)]) Q:=by
 rcases hv with rfl|rfl
 ·exact kK ⋯ (nd (p:=((decide (Builtin.Int.intBits sd>shortFactorBits)&&decide (Builtin.Int.intBits 48271>shortFactorBits)&&Builtin.Int.intTooBig ((Builtin.Int.intBits sd:Int)+(Builtin.Int.intBits 48271:Int)))=true→False)∧True) ⋯ ⟨De sd,trivial⟩) h1
 ·exact kK ⋯ (nd (p:=((decide (Builtin.Int.intBits sd>shortFactorBits)&&decide (Builtin.Int.intBits 48271>shortFactorBits)&&Builtin.Int.intTooBig ((Builtin.Int.intBits sd:Int)+(Builtin.Int.intBits 48271:Int)))=true→False)∧True) ⋯ ⟨De sd,trivial⟩) h1
noncomputable def KC(ns:List Int):ai:=[("script",.lst (ns.map V.num))]
noncomputable def DH(ns:List Int):ai:=[("script",.lst (ns.map V.num)),("due",.loc 2),("marks",.loc 1),("bag",.loc 0)]
noncomputable def A6(o:AO):St:=[o,.list [] [],.list [] []]
theorem GU(G:List Int):bB (G.map V.num)=true:=gr (fun i=>rfl) G
theorem UT(a:Int):0≤Int.fmod a 2147483629∧Int.fmod a 2147483629<2147483648:=by
 have h1:=qN a (b:=2147483629) (by decide);have h2:=Int.fmod_lt_of_pos a (b:=2147483629) (by decide);exact⟨h1,by lia⟩
theorem UU{ns G:List Int}{sd b:Int}{u:V}(hu:u=.int sd∨u=.num sd)(pL:gZ p w K L B f (A6 (kE G 0 sd b)) (DH ns) rest):
  ∀σ:Nat→Addr,∃aD z st' m',nR 0 aD z σ [.list [] (G.map V.num),.list [] [],.list [] [.loc 0,.int 0,u,.int b],.list [] [],.list [] []] st'∧mF 0 aD z σ [.list [] (G.map V.num),.list [] [],.list [] [.loc 0,.int 0,u,.int b],.list [] [],.list [] []] false
   [(("script":Str),.lst (ns.map V.num)),(("due":Str),.loc 4),(("marks":Str),.loc 3),(("bag":Str),.loc 2)] m'∧gZ p w K L B f st' m' rest:=by
 intro σ;refine⟨[2,3,4],(· ∈[0]),A6 (kE G 0 sd b),DH ns,wZ rfl (.cons rfl (.list (.cons (.lst (k:=0) (List.mem_singleton.mpr rfl) rfl (gS (GU G))) (.cons (.Nd 0) (.cons ?_ (.cons (.Nd b) .nil))))) (.cons rfl (.fix rfl) (.cons rfl (.fix rfl) .nil))),.cons (.closed rfl) (.cons (.loc rfl) (.cons (.loc rfl) (.cons (.loc rfl) .nil))),pL⟩;rcases hu with rfl|rfl
 ·exact .Nd _
 ·exact .closed rfl
end
theorem mQ(p:Program)(w:World)(K:Frag):Kept (bL p w K):=oM fun d a A I σ st s E args ys Q W ha=>by exact ft ha
section
variable{K:Frag}
theorem zG{ns:List Int}(h:ns.length+1≤n):(ns.map V.num).length+1≤n:=by rw[List.length_map];exact h
theorem XN{ns:List Int}(hl:ns.length≤63){L:LW}(hk:L.k=k+100)(eO:L.fe=bP)(hX:∀b,aF L.env b→B.X b)
  (pL:∀o,Bg 1000000 o→gZ p w K L B f (A6 o) (DH ns) rest):gZ p w K L B f [] (KC ns) (fq 0::rest):=by
 refine Ii (S:=fun _ _ _ _ _=>False) (as:=[]) (eX (mQ p w K) 60) hX (by rw[eO];rfl) ?_;rw[hk,eO];refine BS ((ns.map V.num).take 24) [] [.list [] []] (fun vs m st=>∃(r G:List Int),vs=r.map V.num∧m=[]∧st=[.list [] (G.map V.num)]∧G.length+r.length≤24) ⋯ (nd (p:=(ns.map V.num).length+1≤1000∧True) ⋯ ⟨zG (by lia),trivial⟩)
  ⟨ns.take 24,[],(List.map_take ..).symm,rfl,rfl,by simp;lia⟩ ?_ ?_
 ·rintro v r m st ⟨r',G,e,rfl,rfl,hG⟩;induction r' using qh with
  |nil=>cases e
  |cons i r'=>
   simp only[List.map_cons,List.cons.injEq]at e;obtain⟨rfl,rfl⟩:=e;simp only[List.length_cons]at hG;exact N8 (k:=k) (ns:=ns) (by lia) ⟨r',G++[Ef i-10^18],rfl,⋯,by rw[List.map_append];rfl,by simp;lia⟩ ⟨r',G,rfl,⋯,rfl,by exact qK ‹_›⟩
 ·rintro m st ⟨r',G,e,rfl,rfl,hG⟩;have hG:G.length≤24:=by exact Q9 ‹_›
  refine BS ((ns.map V.num).take 24) (KA ns G (.int 113017)) [.list [] (G.map V.num)] (fun vs m st=>∃(r:List Int) (v:V) (sd:Int),vs=r.map V.num∧(v=.int sd∨v=.num sd)∧0≤sd∧sd<2147483648∧m=KA ns G v∧st=[.list [] (G.map V.num)]) ⋯ (nd (p:=(ns.map V.num).length+1≤1000∧True) ⋯ ⟨zG (by lia),trivial⟩)
   ⟨ns.take 24,.int 113017,113017,(List.map_take ..).symm,.inl rfl,by decide,by decide,rfl,rfl⟩ ?_ ?_
  ·rintro v r m st ⟨r',u,sd,e,hu,h0,h1,rfl,rfl⟩;induction r' using qh with
   |nil=>cases e
   |cons i r'=>
    simp only[List.map_cons,List.cons.injEq]at e;obtain⟨rfl,rfl⟩:=e;obtain⟨f0,f1⟩:=UT (sd*48271+i);exact N9 (k:=k) hu ⟨r',.num (Int.fmod (sd*48271+i) 2147483629),_,rfl,.inr rfl,f0,f1,⋯,rfl⟩
  ·rintro m st ⟨r',u,sd,e,hu,h0,h1,rfl,rfl⟩;have eL:∀b,Bg 1000000 (kE G 0 sd b):=fun b=>.mk hG (by decide) (by decide) h0 h1;have fin:∀b,∀q:cC,q=((.next,[(("script":Str),.lst (ns.map V.num)),(("due":Str),.loc 4),(("marks":Str),.loc 3),(("bag":Str),.loc 2)]),[.list [] (G.map V.num),.list [] [],.list [] [.loc 0,.int 0,u,.int b],.list [] [],.list [] []])→
     q.1.1=.next∧∀σ,(∀k,k<q.2.length→σ k≠sysModules)→∃aD z st' m',nR 0 aD z σ q.2 st'∧mF 0 aD z σ q.2 false q.1.2 m'∧gZ p w K L B f st' m' rest:=fun b q hq=>by
    subst hq;exact⟨rfl,fun σ _=>UU hu (pL _ (eL b)) σ⟩
   induction G using qh with
   |nil=>
    refine ur (by rcases hu with rfl|rfl<;>kernel_rfl) (nd (p:=(ns.map V.num).length+1≤500∧True) (by rcases hu with rfl|rfl<;>kernel_rfl) ⟨zG (by lia),trivial⟩) fun c hc=> ?_
    induction c using qd with
    |true=>exact kK (a:=((.next,[(("script":Str),.lst (ns.map V.num)),(("due":Str),.loc 4),(("marks":Str),.loc 3),(("bag":Str),.loc 2)]),[.list [] [],.list [] [],.list [] [.loc 0,.int 0,u,.int 12],.list [] [],.list [] []])) (by rcases hu with rfl|rfl<;>kernel_rfl) (gW (by rcases hu with rfl|rfl<;>kernel_rfl)) (fin 12 _ rfl)
    |false=>exact kK (a:=((.next,[(("script":Str),.lst (ns.map V.num)),(("due":Str),.loc 4),(("marks":Str),.loc 3),(("bag":Str),.loc 2)]),[.list [] [],.list [] [],.list [] [.loc 0,.int 0,u,.int 5],.list [] [],.list [] []])) (by rcases hu with rfl|rfl<;>kernel_rfl) (gW (by rcases hu with rfl|rfl<;>kernel_rfl)) (fin 5 _ rfl)
   |cons g G=>exact kK (a:=((.next,[(("script":Str),.lst (ns.map V.num)),(("due":Str),.loc 4),(("marks":Str),.loc 3),(("bag":Str),.loc 2)]),[.list [] ((g::G).map V.num),.list [] [],.list [] [.loc 0,.int 0,u,.int 12],.list [] [],.list [] []])) (by rcases hu with rfl|rfl<;>kernel_rfl) (gW (by rcases hu with rfl|rfl<;>kernel_rfl)) (fin 12 _ rfl)
end
noncomputable def XO(t:aB)(b o:Tree 2):Tree 3:=Tr.jR (some (Tr.leaf (.int 1):Tree 2)) [([t],b)] (some o)
theorem UW(h1:t.ok)(h2:Tree.ok 2 b)(h3:Tree.ok 2 o):Tree.ok 3 (XO t b o):=
 ⟨⟨by decide,by decide⟩,⟨by exact rB,fun w hw=>by simp at hw;subst hw;exact⟨⟨⟨by exact rB,by exact rB⟩,fun x hx=>by simp at hx;subst hx;exact h1⟩,h2⟩⟩,h3⟩
noncomputable def gT(ns:List Int)(y:V)(T:Tree 3):ai:=[("script",.lst (ns.map V.num)),("due",.loc 1),("marks",.loc 0),("bag",y),("tree",Tree.v 3 T)]
noncomputable def jf:St:=[.list [] [],.list [] []]
section
variable{K:Frag}
theorem XQ(n:Nat):aU (kL p w (jo n) aI JN K) (cX (HK p w K n) 60):=eX (Zj p w K n) 60
theorem XR{ns:List Int}{o:AO}(eL:Bg 1000000 o){L:LW}(hk:L.k=k+100)(eO:L.fe=bP)(hX:∀b,aF L.env b→B.X b)
  (pL:∀T y,Tree.ok 3 T→gZ p w K L B f jf (gT ns (.aL y) T) rest):gZ p w K L B f (A6 o) (DH ns) (fq 1::rest):=by
 refine Ii (S:=jo 20) (as:=JN) (XQ 20) hX (by rw[eO];rfl) ?_;rw[hk,eO];refine Ff (k+100) 999990 (by decide) (qg 8 (k+92)) eL fun t o1 ot b=> ?_;refine jL (k+100) 2 999365 (x:=2) rfl (by decide) (by decide) (qg 30 (k+70)) b (by decide) fun t1 o2 o1' b=> ?_;refine jL (k+100) 2 998740 (x:=2) rfl (by decide) (by decide) (qg 30 (k+70)) b (by decide) fun t2 o3 o2' b=> ?_;refine oU (a:=((.next,[(("script":Str),.lst (ns.map V.num)),(("due":Str),.loc 2),(("marks":Str),.loc 1),(("bag":Str),.loc 0),(("tree":Str),.tup [.str "case",.tup [.str "int",.int 1],.loc 4,Tree.v 2 t2])]),[o3,.list [] [],.list [] [],.list [] [t.v],.list [] [.tup [.loc 3,Tree.v 2 t1]]])) ?_ trivial ⋯;exact⟨rfl,fun σ _=>⟨[1,2],(· ∈[3,4]),jf,gT ns (.aL (.ref (σ 0))) (XO t t1 t2),wZ rfl (.cons rfl (.fix rfl) (.cons rfl (.fix rfl) .nil)),.cons (.closed rfl) (.cons (.loc rfl) (.cons (.loc rfl) (.cons (.aL 0) (.cons (.tup (.cons (.closed rfl) (.cons (.closed rfl) (.cons
  (.lst (k:=4) (.tail _ (.head _)) rfl (.cons (.tup (.cons (.lst (k:=3) (.head _) rfl (.cons (.closed (mz t)) .nil)) (.cons (.closed (fN 2 t1)) .nil))) .nil)) (.cons (.closed (fN 2 t2)) .nil))))) .nil)))),pL _ _ (UW ot o1' o2')⟩⟩
end
section
open PySem.SeqAt
section
variable{st:St}
set_option backward.match.sparseCases true in
theorem zH(H:au cx (k+1) A I σ st s)(ho:I a=some o)(hd:o.data=.func fd)(hg:fd.globals=mainGlobals)
  (hb:fd.builtins=builtinsNs)(hc:∃c co vs t,fd.code=.ref c∧I c=some co∧co.data=.fields vs∧vs[1]? =some (.str fd.qualname t))(jw:fd.closure=[])(dfn:fd.defaults=.none)
  (r:aG I cx.P σ st.length args ys)(Cv:xO fd [] []=true)(hm:uV fd [] args=some m)(nI:fd.body=.stmts body)
  (h:∀env s₁,((gI fd.scope.names=true∧env=callEnv fd s.heap.objs.size a)∨(gI fd.scope.names=false∧env=callEnvC fd s.heap.objs.size a))→(∀b,aF env b→s.heap.get? b=none)→(∀b o,s.heap.get? b=some o→s₁.heap.get? b=some o)→bw s s₁→sH k (A.deeper env)→
   av cx.P ⟨fd.scope,[]⟩ m env I σ st.length s₁.heap→∀E':dU,wpAny cx.M (A.deeper env) (execs body env) (fun f s'=>Q (match f with|.ret v=>v|_=>.none) s') E' s₁):wpAny cx.M A (call (.ref a) ys) Q E s:=by
 exact wpAny_call (Ep H ⟨⟨o,ho,hd⟩,hc,hg,hb,jw▸.nil,.inl ⟨dfn,rfl⟩⟩ r Cv hm nI h)
end
noncomputable def sC:List (Pos×Addr)→LV
 |[]=>[]
 |p::l=>rawInt p.1.line::rawInt p.1.col::.ref p.2::sC l
theorem yT:∀(a b:List (Pos×Addr)),sC (a++b)=sC a++sC b
 |[],b=>rfl
 |p::a,b=>by simp[sC,yT a b]
theorem Cc:∀l,TriplesOk (sC l)
 |[]=>trivial
 |p::l=>Cc l
noncomputable def vt(pos:Pos):List Pos→Bool
 |[]=>true
 |p::l=> !(p.line==pos.line&&p.col==pos.col)&&vt pos l
theorem xh:∀{l:List (Pos×Addr)},vt pos (l.map (·.1))=true→codeAmong pos (sC l)=none
 |[],_=>rfl
 |p::l,h=>by
  simp only[List.map_cons,vt,Bool.and_eq_true,Bool.not_eq_true']at h;have ih:=xh (l:=l) h.2;unfold sC rawInt codeAmong;rw[if_neg]
  ·exact ih
  ·intro q;simp only[Bool.and_eq_true,beq_iff_eq]at q;have h1:=h.1;simp only[Bool.and_eq_false_iff,beq_eq_false_iff_ne]at h1;rcases h1 with h1|h1
   ·exact h1 (by exact_mod_cast q.1)
   ·exact h1 (by exact_mod_cast q.2)
def QB(I:IM)(h:Heap):Prop:=∀b o,I b=some o→h.get? b=some o
structure KB (I:IM) (c P:Addr):Prop where
 code:∀h,QB I h→CodeHd h c P
 blt:∀h,QB I h→∃mg,h.Ns mainGlobals mg∧h.BuiltinsAt mg P
 gP:mainGlobals≠P
theorem KB.mono(b:KB I c P)(h:f7 I I'):KB I' c P:=⟨fun x hx=>b.code x fun y o e=>hx y o (h y o e),fun x hx=>b.blt x fun y o e=>hx y o (h y o e),b.gP⟩
section
variable{P:Params}{st:St}{X:Addr→Prop}
theorem aM.make(r:cG P I σ st h)(hX:X T)(iT:I T=none)(sT:∀j,j<st.length→σ j≠T)(kp:Heap.ExtBut T h h')(tT:∃o,h'.get? T=some o)(hc:h.objs.size≤c')(gc:h'.get? c'=some oc)(Ru:h.objs.size≤h'.objs.size)(hf:fo.isFreed=false):
  aM P X I σ st.length h (dW (dW I c' oc) h'.objs.size fo) σ st (h'.push fo)∧f7 I (dW (dW I c' oc) h'.objs.size fo)∧dW (dW I c' oc) h'.objs.size fo h'.objs.size=some fo∧dW (dW I c' oc) h'.objs.size fo c'=some oc∧(dW (dW I c' oc) h'.objs.size fo T=none∨h.get? T=none):=by
 have DI:h.get? c'=none:=Heap.get?_none_of_le hc;have DJ:h.get? h'.objs.size=none:=Heap.get?_none_of_le Ru;have XS:c'<h'.objs.size:=Heap.lt_size gc;have i1:f7 I (dW I c' oc):=lI oc (r.pX DI);have n2:dW I c' oc h'.objs.size=none:=by
  induction q:dW I c' oc h'.objs.size using qe with
  |none=>rfl
  |some o=>
   rcases eU q with⟨e,_⟩|⟨_,e⟩
   ·exact absurd e (Nat.ne_of_gt XS)
   ·rw[r.pX DJ]at e;exact nn e
 have i2:f7 I (dW (dW I c' oc) h'.objs.size fo):=fun b o e=>lI fo n2 b o (i1 b o e);have keep:∀b o,b≠T→h.get? b=some o→(h'.push fo).get? b=some o:=fun b o hb e=>Heap.get?_push_of_some _ (kp b o hb e);have live:∀j,j<st.length→∃o,h.get? (σ j)=some o:=fun j hj=>r.live hj;refine⟨⟨⟨i2,fun _ _=>rfl,qf _⟩,fun b o e=> ?_,fun k a b=>absurd a (Nat.not_le.mpr b),⟨fun b o e=> ?_,fun j o e=> ?_,r.inj,fun j hj=> ?_⟩,fun b o e hx _=>keep b o (fun q=>hx (q▸hX)) e,fun b o e=> ?_⟩,i2,kQ .., ?_, ?_⟩
 ·rcases eU e with⟨q,_⟩|⟨_,e⟩
  ·rw[q];exact .inr DJ
  ·rcases eU e with⟨q,_⟩|⟨_,e⟩
   ·rw[q];exact .inr DI
   ·exact .inl e
 ·rcases eU e with⟨q,q2⟩|⟨_,e⟩
  ·rw[q,q2];exact Heap.get?_push_size _ hf
  ·rcases eU e with⟨q,q2⟩|⟨_,e⟩
   ·rw[q,q2];exact Heap.get?_push_of_some _ gc
   ·exact keep b o (fun q=>by rw[q,iT]at e;exact nn e) (r.sub b o e)
 ·obtain⟨ob,g,gB⟩:=r.cells j o e;exact⟨ob,keep _ _ (sT j (List.getElem?_eq_some_iff.mp e).1) g,gB.mono ⟨i2,fun _ _=>rfl,qf _⟩⟩
 ·obtain⟨o,g⟩:=live j hj;induction q:dW (dW I c' oc) h'.objs.size fo (σ j)using qe with
  |none=>rfl
  |some o'=>
   rcases eU q with⟨e,_⟩|⟨_,e⟩
   ·rw[e,DJ]at g;exact nn g
   ·rcases eU e with⟨e,_⟩|⟨_,e⟩
    ·rw[e,DI]at g;exact nn g
    ·rw[r.out j hj]at e;exact nn e
 ·by_cases q:b=T
  ·subst q;obtain⟨o',e'⟩:=tT;exact⟨o',Heap.get?_push_of_some _ e'⟩
  ·exact⟨o,keep b o q e⟩
 ·exact lI fo n2 _ _ (kQ ..)
 ·induction q:h.get? T using qe with
  |none=>exact .inr rfl
  |some o=>
   refine .inl ?_;induction z:dW (dW I c' oc) h'.objs.size fo T using qe with
   |none=>rfl
   |some o'=>
    rcases eU z with⟨e,_⟩|⟨_,e⟩
    ·rw[e,DJ]at q;exact nn q
    ·rcases eU e with⟨e,_⟩|⟨_,e⟩
     ·rw[e,DI]at q;exact nn q
     ·rw[iT]at e;exact nn e
end
structure KS (cx:Cx) (k:Nat) (A:Around) (fe:FE) (env:Env) (T:Addr) (I0:IM) (jI:Nat→Addr) (n0:Nat) (s0:Shared) (I:IM) (σ:Nat→Addr) (st:St) (s:Shared) (m:ai) (cs:List (Pos×Addr)):Prop where
 H:au cx k A I σ st s
 l:av cx.P fe m env I σ st.length s.heap
 x:aM cx.P (fun b=>b=T∨aF env b) I0 jI n0 s0.heap I σ st s.heap
 sm:bw s0 s
 tab:s.heap.get? T=some (tabObj (sC cs).toArray)
 iT:I T=none
 sT:∀j,j<st.length→σ j≠T
 oT:¬aF env T
theorem av.kept(l:av P fe m env I σ n h)(hf:fe.free=[])(i:f7 I I')(kp:∀b o,aF env b→h.get? b=some o→h'.get? b=some o)(ap:∀b,aF env b→I' b=none):
  av P fe m env I' σ n h':=by
 have le:Le I I' σ σ n n:=⟨i,fun _ _=>rfl,qf _⟩;refine⟨l.scope,l.kind,l.glob,l.blt, ?_,fun x v e hk=> ?_,fun x hk=> ?_,fun x v e=> ?_,fun b hb=>⟨ap b hb,(l.apart b hb).2⟩,l.ne,l.inj⟩
 ·obtain⟨mm,⟨o,es,ep,ho,hd⟩,h2⟩:=l.ns;refine⟨mm,⟨o,es,ep,kp _ _ (.inl rfl) ho,hd⟩,fun x v e hk=> ?_⟩;obtain⟨y,e1,r⟩:=h2 x v e hk;exact⟨y,e1,r.mono le⟩
 ·obtain⟨d,y,h1,⟨o,ho,hd⟩,r⟩:=l.cell x v e hk;exact⟨d,y,h1,⟨o,kp _ _ (.inr ⟨x,hk,h1⟩) ho,hd⟩,r.mono le⟩
 ·obtain⟨c,v,h1,o,ho,hd⟩:=l.there x hk;exact⟨c,v,h1,o,kp _ _ (.inr ⟨x,hk,h1⟩) ho,hd⟩
 ·rw[hf]at e;exact nn e
section
variable{st:St}
theorem Ij(S:KS cx k A fe env T I0 jI n0 s0 I σ st s m cs)(hf:fe.free=[])(kp:Heap.ExtBut T s.heap h')(hc:s.heap.objs.size≤c')(gc:h'.get? c'=some oc)(tT:h'.get? T=some (tabObj ((sC cs).toArray++ #[rawInt pos.line,rawInt pos.col,.ref c'])))(Cv:fo.isFreed=false):
  ∃I',KS cx k A fe env T I0 jI n0 s0 I' σ st {s with heap:=h'.push fo,toks:=tk} m (cs++[(pos,c')])∧f7 I I'∧I' h'.objs.size=some fo∧I' c'=some oc:=by
 have Ru:s.heap.objs.size≤h'.objs.size:=qK (Nat.lt_of_le_of_lt hc (Heap.lt_size gc));obtain⟨x,i1,i2,i3,i4⟩:=aM.make (X:=fun b=>b=T∨aF env b) (fo:=fo) S.H.rel (.inl rfl) S.iT S.sT kp ⟨_,tT⟩ hc gc Ru Cv;refine⟨_,⟨⟨S.H.fit,S.H.base.mono i1,x.rel⟩, ?_,S.x.trans x,S.sm.trans ⟨rfl,rfl,rfl⟩, ?_, ?_,S.sT,S.oT⟩,i1,i2,i3⟩
 ·refine S.l.kept hf i1 (fun b o hb e=>Heap.get?_push_of_some _ (kp b o (fun q=>S.oT (q▸hb)) e)) fun b hb=> ?_;have ap:=S.l.apart b hb;have ZA:∃o,s.heap.get? b=some o:=by
   rcases hb with rfl|⟨y,hy,hc⟩
   ·obtain⟨mm,⟨o,_,_,ho,_⟩,_⟩:=S.l.ns;exact⟨o,ho⟩
   ·obtain⟨c,v,h1,o,ho,_⟩:=S.l.there y hy;rw[hc]at h1;obtain rfl:=qc h1;exact⟨o,ho⟩
  obtain⟨o,ho⟩:=ZA;induction q:dW (dW I c' oc) h'.objs.size fo b using qe with
  |none=>rfl
  |some o'=>
   rcases x.fresh b o' q with q|q
   ·rw[ap.1]at q;exact nn q
   ·rw[ho]at q;exact ns q
 ·show(h'.push fo).get? T=_;rw[Heap.get?_push_of_some _ tT,yT];simp[sC]
 ·rcases i4 with q|q
  ·exact q
  ·rw[S.tab]at q;exact ns q
theorem XT(S:KS cx k A fe env T I0 jI n0 s0 I σ st s m cs)(hf:fe.free=[])(kb:KB I c T)(wz:closureFor scope env=pure clos)(A7:env.code=.ref c)(sD:vt pos (cs.map (·.1))=true)
  (h:∀I' s' f c' oc vs t yU pm sE,KS cx k A fe env T I0 jI n0 s0 I' σ st s' m (cs++[(pos,c')])→f7 I I'→I' f=some (fnMade name qual params body scope clos yU pm c' sE)→I' c'=some oc→oc.data=.fields vs→vs[1]? =some (.str qual t)→Q (.ref f) s'):
  wpAny cx.M A (makeFunction name qual params (.stmts body) scope env [] [] [] pos Oa) Q E s:=by
 obtain⟨mg,hg,hb⟩:=kb.blt s.heap S.H.rel.sub;refine makeFunction_K (mg:=mg) wz S.l.glob hg A7 (kb.code s.heap S.H.rel.sub) S.tab (by rw[List.toList_toArray];exact Cc cs) (by rw[List.toList_toArray];exact xh sD) kb.gP hb fun c' sE yU h' tk hx XU XS QC XW=> ?_;obtain⟨c₂,oc,vs,t,e2,XX,hd,hv⟩:=QC;cases e2
 obtain⟨I',S',i1,i2,i3⟩:=Ij S hf hx XU XX XW (fo:=fnMade name qual params body scope clos yU ((mg "__name__").getD .none) c' sE) rfl (tk:=tk);exact h I' _ _ c' oc vs t yU _ sE S' i1 i2 i3 hd hv
theorem XY(S:KS cx k A fe env T I0 jI n0 s0 I σ st s m cs)(hf:fe.free=[])(kb:KB I c T)(wz:closureFor scope env=pure clos)(A7:env.code=.ref c)(sD:vt pos (cs.map (·.1))=true)
  (h:∀I' s' f c' oc vs t pm sE,KS cx k A fe env T I0 jI n0 s0 I' σ st s' m (cs++[(pos,c')])→f7 I I'→I' f=some (kla_obj name qual params body scope clos pm c' sE)→I' c'=some oc→oc.data=.fields vs→vs[1]? =some (.str qual t)→Q (.ref f) s'):
  wpAny cx.M A (makeFunction name qual params (.expr body) scope env [] [] [] pos Oa) Q E s:=by
 obtain⟨mg,hg,hb⟩:=kb.blt s.heap S.H.rel.sub;refine kla_makeFunction (mg:=mg) wz S.l.glob hg A7 (kb.code s.heap S.H.rel.sub) S.tab (by rw[List.toList_toArray];exact Cc cs) (by rw[List.toList_toArray];exact xh sD) kb.gP hb fun c' sE h' tk hx XU XS QC XW=> ?_;obtain⟨c₂,oc,vs,t,e2,XX,hd,hv⟩:=QC;cases e2
 obtain⟨I',S',i1,i2,i3⟩:=Ij S hf hx XU XX XW (fo:=kla_obj name qual params body scope clos ((mg "__name__").getD .none) c' sE) rfl (tk:=tk);exact h I' _ _ c' oc vs t _ sE S' i1 i2 i3 hd hv
theorem KS.go(S:KS cx k A fe env T I0 jI n0 s0 I σ st s m cs)(x:aM cx.P (aF env) I σ st.length s.heap I' af st' s'.heap)(sm:bw s s')(l':av cx.P fe m' env I' af st'.length s'.heap):
  KS cx k A fe env T I0 jI n0 s0 I' af st' s' m' cs:=by
 refine⟨S.H.go x,l',S.x.trans (x.weaken fun b hb=>.inr hb),S.sm.trans sm,x.keep _ _ S.tab S.oT S.sT, ?_,fun j hj=> ?_,S.oT⟩
 ·induction q:I' T using qe with
  |none=>rfl
  |some o=>
   rcases x.fresh T o q with q|q
   ·rw[S.iT]at q;exact nn q
   ·rw[S.tab]at q;exact ns q
 ·by_cases h:j<st.length
  ·rw[x.le.s j h];exact S.sT j h
  ·intro z;have:=x.new j (qA h) hj;rw[z,S.tab]at this;exact ns this
theorem UX(S:KS cx k A fe env T I0 jI n0 s0 I σ st s m cs)(hf:fe.free=[])(kb:KB I c T){clos:List (Str×Addr)}{pos:Pos}{E:dU}{Q:Flow→SP}(XZ:params.defaults=[])(X0:params.kw_defaults=[])(X3:annTrees params none env=[])
  (wz:closureFor scope env=pure clos)(A7:env.code=.ref c)(sD:vt pos (cs.map (·.1))=true)(QD:rJ fe name=true)
  (h:∀I' s' f c' oc vs t yU pm sE,KS cx k A fe env T I0 jI n0 s0 I' σ st s' (put name (.aL (.ref f)) m) (cs++[(pos,c')])→f7 I I'→I' f=some (fnMade name (qualnameIn env name name) params body scope clos yU pm c' sE)→I' c'=some oc→oc.data=.fields vs→vs[1]? =some (.str (qualnameIn env name name) t)→Q .next s'):
  wpAny cx.M A (exec (.FunctionDef name params body [] none [] scope none name pos) env) Q E s:=by
 refine nestDef_K XZ X0 X3 (XT S hf kb wz A7 sD fun I' s' f c' oc vs t yU pm sE S' i1 i2 i3 i4 i5=> ?_);refine pY S'.H S'.l QD (.aL _) fun vY x sm l'=> ?_;exact h I' vY f c' oc vs t yU pm sE (S'.go x sm l') i1 i2 i3 i4 i5
end
def c7(I:IM)(f:Addr)(fl:FuncData)(clos:List (Str×Addr)):Prop:=
 ∃o fd c co vs t,I f=some o∧o.cls=.type "function"∧o.data=.func fd∧zN fl fd∧fd.code=.ref c∧I c=some co∧co.data=.fields vs∧vs[1]? =some (.str fd.qualname t)∧fd.closure=clos
theorem c7.mono(h:c7 I f fl clos)(i:f7 I I'):c7 I' f fl clos:=
 (by obtain⟨o,fd,c,co,vs,t,h1,h2,h3,h4,h5,h6,h7⟩:=h;exact⟨o,fd,c,co,vs,t,i _ _ h1,h2,h3,h4,h5,i _ _ h6,h7⟩)
noncomputable def kA(i:Nat):Arguments:=match jS i with
 |some s=>match s with
  |.FunctionDef _ a _ _ _ _ _ _ _ _=>a
  |_=>default
 |none=>default
noncomputable def Df(i:Nat):List Stmt:=match jS i with
 |some s=>match s with
  |.FunctionDef _ _ b _ _ _ _ _ _ _=>b
  |_=>[]
 |none=>[]
noncomputable def A8(i:Nat):Scope:=match jS i with
 |some s=>match s with
  |.FunctionDef _ _ _ _ _ _ sc _ _ _=>sc
  |_=>default
 |none=>default
noncomputable def iY(i:Nat):Pos:=match jS i with
 |some s=>match s with
  |.FunctionDef _ _ _ _ _ _ _ _ _ p=>p
  |_=>default
 |none=>default
noncomputable def fD:FE:=⟨nL.scope,[]⟩
noncomputable abbrev fP(L:Addr):Env:=callEnvC nL L 1266
noncomputable abbrev yg(L:Addr):List (Str×Addr):=[("marks",L+1),("leave_or_done",L+2)]
noncomputable abbrev X4(L:Addr):List (Str×Addr):=[("leave_or_done",L+2)]
noncomputable abbrev Sy(L:Addr):List (Str×Addr):=[("marks",L+1)]
section
variable{st:St}
theorem rt(S:KS cx k A fD (fP L) T I0 jI n0 s0 I σ st s m cs)(kb:KB I 1265 T)(QE:jS i=some (.FunctionDef nm (kA i) (Df i) [] none [] (A8 i) none nm (iY i)))
  (XZ:(kA i).defaults=[])(X0:(kA i).kw_defaults=[])(X3:annTrees (kA i) none (fP L)=[])(wz:closureFor (A8 i) (fP L)=pure clos)(sD:vt (iY i) (cs.map (·.1))=true)(QD:rJ fD nm=true)(hq:qualnameIn (fP L) nm nm="_law_kinds.<locals>."++nm)
  (h:∀I' s' f c',KS cx k A fD (fP L) T I0 jI n0 s0 I' σ st s' (put nm (.aL (.ref f)) m) (cs++[(iY i,c')])→f7 I I'→c7 I' f (dN nm i) clos→Q .next s'):
  wpAny cx.M A (exec (.FunctionDef nm (kA i) (Df i) [] none [] (A8 i) none nm (iY i)) (fP L)) Q E s:=by
 refine UX S rfl kb XZ X0 X3 wz rfl sD QD fun I' s' f c' oc vs t yU pm sE S' i1 i2 i3 i4 i5=>h I' s' f c' S' i1 ?_;refine⟨_,_,c',oc,vs,t,i2,rfl,rfl, ?_,rfl,i3,i4,by rw[←hq]at*;exact i5,rfl⟩;unfold dN PM;rw[QE];exact⟨rfl,rfl,rfl,rfl,rfl,rfl,rfl,hq⟩
theorem X5(ZC:jH nL=.FunctionDef "leave_or_done" (kA 0) (Df 0) [] none [] (A8 0) none "leave_or_done" (iY 0)::.FunctionDef "made" (kA 1) (Df 1) [] none [] (A8 1) none "made" (iY 1)::.FunctionDef "toss" (kA 2) (Df 2) [] none [] (A8 2) none "toss" (iY 2)::
   .FunctionDef "guarded" (kA 3) (Df 3) [] none [] (A8 3) none "guarded" (iY 3)::.FunctionDef "sending" (kA 4) (Df 4) [] none [] (A8 4) none "sending" (iY 4)::.FunctionDef "settle" (kA 5) (Df 5) [] none [] (A8 5) none "settle" (iY 5)::rest)
  (S:KS cx k A fD (fP L) T I0 jI n0 s0 I σ st s [(("marks":Str),.loc l)] [])(kb:KB I 1265 T)
  (h:∀I' s' f0 f1 f2 f3 f4 f5 c0 c1 c2 c3 c4 c5,KS cx k A fD (fP L) T I0 jI n0 s0 I' σ st s' [(("marks":Str),.loc l),(("leave_or_done":Str),.aL (.ref f0)),(("made":Str),.aL (.ref f1)),(("toss":Str),.aL (.ref f2)),(("guarded":Str),.aL (.ref f3)),(("sending":Str),.aL (.ref f4)),(("settle":Str),.aL (.ref f5))]
    [(iY 0,c0),(iY 1,c1),(iY 2,c2),(iY 3,c3),(iY 4,c4),(iY 5,c5)]→f7 I I'→c7 I' f0 (dN "leave_or_done" 0) []→c7 I' f1 (dN "made" 1) (yg L)→c7 I' f2 (dN "toss" 2) (X4 L)→c7 I' f3 (dN "guarded" 3) (yg L)→c7 I' f4 (dN "sending" 4) (yg L)→c7 I' f5 (dN "settle" 5) (Sy L)→
    wpAny cx.M A (execs rest (fP L)) Q E s'):wpAny cx.M A (execs (jH nL) (fP L)) Q E s:=by
 rw[ZC];refine wpAny_execs_cons (rt S kb ⋯ ⋯ ⋯ ⋯ (clos:=[]) ⋯ ⋯ ⋯ ⋯ fun I1 s1 f0 c0 S1 j1 C0=> ?_);refine wpAny_execs_cons (rt S1 (kb.mono j1) ⋯ ⋯ ⋯ ⋯ (clos:=yg L) ⋯ ⋯ ⋯ ⋯ fun I2 s2 f1 c1 S2 j2 C1=> ?_);have k2:f7 I I2:=fun b o e=>j2 b o (j1 b o e);refine wpAny_execs_cons (rt S2 (kb.mono k2) ⋯ ⋯ ⋯ ⋯ (clos:=X4 L) ⋯ ⋯ ⋯ ⋯ fun I3 s3 f2 c2 S3 j3 C2=> ?_);have k3:f7 I I3:=fun b o e=>j3 b o (k2 b o e);refine wpAny_execs_cons (rt S3 (kb.mono k3) ⋯ ⋯ ⋯ ⋯ (clos:=yg L) ⋯ ⋯ ⋯ ⋯ fun I4 s4 f3 c3 S4 j4 C3=> ?_);have k4:f7 I I4:=fun b o e=>j4 b o (k3 b o e);refine wpAny_execs_cons (rt S4 (kb.mono k4) ⋯ ⋯ ⋯ ⋯ (clos:=yg L) ⋯ ⋯ ⋯ ⋯ fun I5 s5 f4 c4 S5 j5 C4=> ?_);have k5:f7 I I5:=fun b o e=>j5 b o (k4 b o e);refine wpAny_execs_cons (rt S5 (kb.mono k5) ⋯ ⋯ ⋯ ⋯ (clos:=Sy L) ⋯ ⋯ ⋯ ⋯ fun I6 s6 f5 c5 S6 j6 C5=> ?_);have k6:f7 I I6:=fun b o e=>j6 b o (k5 b o e);have em:put "settle" (.aL (.ref f5)) (put "sending" (.aL (.ref f4)) (put "guarded" (.aL (.ref f3)) (put "toss" (.aL (.ref f2)) (put "made" (.aL (.ref f1)) (put "leave_or_done" (.aL (.ref f0)) [(("marks":Str),V.loc l)])))))=
   [(("marks":Str),.loc l),(("leave_or_done":Str),.aL (.ref f0)),(("made":Str),.aL (.ref f1)),(("toss":Str),.aL (.ref f2)),(("guarded":Str),.aL (.ref f3)),(("sending":Str),.aL (.ref f4)),(("settle":Str),.aL (.ref f5))]:=⋯
 rw[em]at S6;exact h I6 s6 f0 f1 f2 f3 f4 f5 c0 c1 c2 c3 c4 c5 S6 k6 ((((((C0.mono j2).mono j3).mono j4).mono j5).mono j6)) (((((C1.mono j3).mono j4).mono j5).mono j6)) ((((C2.mono j4).mono j5).mono j6)) (((C3.mono j5).mono j6)) ((C4.mono j6)) C5
end
def KV(I:IM)(P:Params)(σ:Nat→Addr)(n:Nat):ai→List (Str×Value)→Prop
 |[],ks=>ks=[]
 |p::fs,ks=>∃y r,ks=(p.1,y)::r∧aq I P σ n p.2 y∧KV I P σ n fs r
section
theorem KV.keys:∀{ks:List (Str×Value)},KV I P σ n fs ks→ks.map (·.1)=fs.map (·.1):=by
 induction fs with
 |nil=>exact fun e=>congrArg _ e
 |cons p fs ih=>
  rintro ks ⟨y,r,e,_,h⟩;exact e▸congrArg (p.1::·) (ih h)
theorem KV.append(q:KV I P σ n gs ls):∀{ks:List (Str×Value)},KV I P σ n fs ks→KV I P σ n (fs++gs) (ks++ls):=by
 induction fs with
 |nil=>exact fun e=>e▸q
 |cons p fs ih=>exact fun⟨y,r,e,h,t⟩=>⟨y,r++ls,congrArg (· ++ls) e,h,ih t⟩
theorem KV.of(w:World)(prog:Program):∀{es:List DictEntry},bF I P σ n fs es→∃kvs:List (Str×Value),Pairs (strKind prog w) es kvs∧KV I P σ n fs kvs:=by
 induction fs with
 |nil=>intro es r;rw[show es=[]from r.inv];exact⟨[],.nil,rfl⟩
 |cons p fs ih=>
  intro es r;replace r:=r.inv;induction r using gh.casesOn with
  |mk h r=>obtain⟨kvs,q,e⟩:=ih r;exact⟨_,.cons (strKind_is prog w _ _) rfl q,_,_,rfl,h,e⟩
theorem Ob{x:Str}{e:DictEntry}(h1:(strKind prog w).is x e.key=true)(hk:∃k,(strKind prog w).is k e.key=true∧e.hash=(strKind prog w).hash k):∃t,e=⟨PyData.keyHash w.params x,.str x t,e.val⟩:=by
 obtain⟨k,q1,q2⟩:=hk;obtain⟨t,ht⟩:=Value.isStrOf_shape h1;obtain⟨t',ht'⟩:=Value.isStrOf_shape q1;rw[ht]at ht';injection ht' with z;subst z;exact⟨t,by rw[←ht,show PyData.keyHash w.params x=_ from q2.symm]⟩
theorem KV.back(w:World)(hw:w.params=P)(prog:Program):∀{es:List DictEntry} {kvs:List (Str×Value)},Pairs (strKind prog w) es kvs→(∀e∈es,∃k,(strKind prog w).is k e.key=true∧e.hash=(strKind prog w).hash k)→KV I P σ n fs kvs→bF I P σ n fs es:=by
 subst hw;induction fs with
 |nil=>
  intro es kvs p _ e;rw[show kvs=[]from e]at p;cases p
  exact .nil
 |cons p fs ih=>
  rintro es kvs q hk ⟨y,r,e,h,t⟩;rw[e]at q;cases q with
  |cons h1 h2 hp=>
   obtain⟨t',z⟩:=Ob h1 (hk _ qi);rw[z,show _=y from h2];exact .cons h (ih hp (fun e he=>hk e (qj _ he)) t)
end
section
variable{P:Params}{st:St}
theorem aM.turn(r:cG P I σ st h)(hk:k<st.length)(kp:Heap.SameBut (σ k) h h')(hb:h'.get? (σ k)=some ob)(hr:dw I P σ st.length ao ob):
  aM P (fun _=>False) I σ st.length h I σ (st.set k ao) h':=by
 have ln:(st.set k ao).length=st.length:=by simp
 have ne:∀b,b≠σ k→h'.get? b=h.get? b:=kp.2;have io:∀b x,I b=some x→b≠σ k:=fun b x e q=>by rw[q,r.out k hk]at e;exact nn e
 refine⟨ln▸Le.refl ..,fun _ _ e=>.inl e,fun j a b=>absurd a (Nat.not_le.mpr (ln▸b)),⟨fun b x e=>(ne b (io b x e)).trans (r.sub b x e),fun j x e=> ?_,fun i j hi hj e=>r.inj i j (ln▸hi) (ln▸hj) e,fun j hj=>r.out j (ln▸hj)⟩,
  fun b x e _ q=>(ne b (fun z=>q k hk z.symm)).trans e,fun b o e=> ?_⟩
 ·rw[ln];rw[List.getElem?_set]at e;by_cases q:k=j
  ·subst q;rw[if_pos rfl,if_pos hk]at e;obtain rfl:=qc e;exact⟨ob,hb,hr⟩
  ·rw[if_neg q]at e;obtain⟨oj,h1,h2⟩:=r.cells j x e;have hj:j<st.length:=(List.getElem?_eq_some_iff.mp e).1;exact⟨oj,(ne _ fun z=>q (r.inj j k hj hk z).symm).trans h1,h2⟩
 ·by_cases q:b=σ k
  ·exact⟨ob,by rw[q];exact hb⟩
  ·exact⟨o,(ne b q).trans e⟩
end
noncomputable def Oc(args:List V):Option (Nat×Nat):=cD (mw args) fun a=>cD (uO a.1) fun i=>cD (mw a.2) fun b=>cD (uO b.1) fun j=>fH (eu b.2) (some (i,j))
noncomputable def X6(st:St)(args:List V):aA (V×St):=cz (Oc args) fun p=>dR (i7 (Nat.beq p.1 p.2)) (cz (dictAt st p.1) fun fs=>cz (dictAt st p.2) fun gs=>dR (rN (Ae (fs++gs))) (dR (Nat.blt (len (fs++gs)) 400) (.ok (.none,cF st p.1 (.dict (fs++gs))))))
noncomputable def Sz:V→Bool:=fun v=>match v with
 |.bi b=>match b with
  |.Bk=>true
  |_=>false
 |_=>false
theorem QF(h:Sz v=true):v=.bi .Bk:=by
 induction v using V.casesOn with
 |bi b=>induction b using BI.casesOn with|Bk=>rfl|_=>exact ft h
 |_=>exact ft h
noncomputable def SA(cx:Cx)(ev:Ev)(k:Nat)(fe:FE)(m:ai)(st:St)(o:Expr)(name:Str)(jy pos:Pos)(args:List Expr):aA (V×St):=dR (g8 args) (dR (ue o) (dR (Nat.beq jy.endLine pos.line) (dR (Nat.blt (len args) 20) ((ev.e k fe m st o).bind fun p=>cz (oA cx p.2 p.1 name) fun f=>dR (Sz f.1) ((wj ev k fe m args p.2).bind fun q=>X6 q.2 (f.2++q.1))))))
section
variable{st:St}
theorem Od(r:aG I P σ n args ys)(h:Oc args=some p):ys=[.ref (σ p.1),.ref (σ p.2)]∧p.1<n∧p.2<n:=
 aK h fun a ha h=>aK h fun i hi h=>aK h fun b hb h=>aK h fun j hj h=>by
  obtain rfl:=qc (cW h);rw[iF ha,iF hb,cI (cQ h)]at r;obtain⟨y1,y2,e,h1,h2⟩:=r.inv2;obtain⟨l1⟩:=uc h1 hi;obtain⟨l2⟩:=uc h2 hj;exact⟨e,l1,l2⟩
theorem Ik(H:au cx k A I σ st s)(h:dictAt st i=some fs):∃(ks:List (Str×Value)),KV I cx.P σ st.length fs ks∧((ks.map (·.1)).Nodup→s.heap.DictOf (strKind cx.prog cx.w) (σ i) ks):=by
 obtain⟨es,ep,g,q⟩:=H.rel.dictAt h;obtain⟨ks,p,v⟩:=KV.of cx.w cx.prog q;exact⟨ks,v,fun nd=>⟨_,es.toArray,ep,g,⟨rfl,rfl,rfl⟩,rfl,pZ cx.w rfl cx.prog q,p,nd⟩⟩
theorem Oe(H:au cx k A I σ st s)(hi:i<st.length)(hj:j<st.length)(SD:Nat.beq i j=false)(CJ:dictAt st i=some fs)(SE:dictAt st j=some gs)(Cz:rN (Ae (fs++gs))=true)(kX:(fs++gs).length<400)
  (g:∀s',aM cx.P (fun _=>False) I σ st.length s.heap I σ (cF st i (.dict (fs++gs))) s'.heap→bw s s'→Q .none s'):wpAny cx.M A (call (.builtin "dict.update") [.ref (σ i),.ref (σ j)]) Q E s:=by
 obtain⟨X7,v1,d1⟩:=Ik H CJ;obtain⟨Ng,v2,d2⟩:=Ik H SE;have va:=v2.append v1;have nd:((X7++Ng).map (·.1)).Nodup:=by rw[va.keys,←Et];exact sJ Cz
 have X8:=List.nodup_append.mp (List.map_append▸nd);have d1:=d1 X8.1;have d2:=d2 X8.2.1;have RM:σ i≠σ j:=fun z=>by
  rw[H.rel.inj i j hi hj z,Nat.beq_refl]at SD;exact tf SD
 have rL:(σ j==sysModules)=false:=beq_eq_false_iff_ne.mpr fun z=>by
  obtain⟨o,ho⟩:=H.base.tK;have:=H.rel.out _ hj;rw[z,ho]at this;exact ns this
 have Nj:X7.length+Ng.length<400:=by
  have:=congrArg List.length va.keys;rw[List.length_map,List.length_map,List.length_append]at this;exact this▸kX
 refine call_meetsIn PySem.F.slot_dict_update d1.typeIs PySem.F.entry_dict_update (PySem.F.args_dict_update_2 _ _) (meets_dict_update (strKind cx.prog cx.w) (σ i) (σ j) RM rL)
  ⟨X7,Ng,d1,d2,(by rw[sizeLine_eq];clear d1 d2;lia),fun h' hd _ hs=> ?_⟩
 rw[merged_append_of_fresh _ _ nd]at hd;clear d1 d2 v1 v2 nd X8 CJ SE Cz RM rL Nj kX;obtain⟨o,es,ep,e1,⟨e2,e3,e4⟩,e5,e6,e7,e8⟩:=hd;have gB:dw I cx.P σ st.length (.dict (fs++gs)) o:=by
  have:=dw.dict (es:=es.toList) ep (KV.back cx.w rfl cx.prog e7 (fun e he=>e6 e (Array.mem_toList_iff.mp he)) va);obtain⟨c,d,dt,sl⟩:=o;dsimp only at e2 e3 e4 e5;subst e2 e3 e4 e5;exact this
 exact g {s with heap:=h'} (eH .. ▸aM.turn H.rel hi hs e1 gB) ⟨rfl,rfl,rfl⟩
theorem UY(H:au cx k A I σ st s)(r:aG I cx.P σ st.length args ys)(g:Good cx.S cx.pre (X6 st args) (EV cx I σ st s Q)):wpAny cx.M A (call (.builtin "dict.update") ys) Q E s:=
 aN g fun p hp g=>by
  obtain⟨SD,g⟩:=bA g;refine aN g fun fs CJ g=>aN g fun gs SE g=> ?_;obtain⟨Cz,g⟩:=bA g;obtain⟨kX,g⟩:=bA g;obtain⟨e,hi,hj⟩:=Od r hp;rw[e];exact Oe H hi hj (uU SD) CJ SE Cz (lJ kX) fun s' x sm=>g I σ _ s' x sm .none
theorem UZ(S:aU cx ev)(H:au cx k A I σ st s)(l:av cx.P fe m env I σ st.length s.heap)(g:Good cx.S cx.pre (SA cx ev k fe m st o name jy pos args) (EV cx I σ st s Q)):
  wpAny cx.M A (eval (.Call (.Attribute o name jy) args [] pos) env) Q E s:=by
 obtain⟨hp,g⟩:=bA g;obtain⟨hn,g⟩:=bA g;obtain⟨hl,g⟩:=bA g;obtain⟨kX,g⟩:=bA g;have KD:methodCallForm (args.length+([]:List Keyword).length) (backTo pos (starEach args env)) (backToKw pos (keywordEach [] env))=true:=by
  unfold methodCallForm;rw[yE hp];exact decide_eq_true (qy (lJ kX) (by decide))
 have sD:methodCallPos true o env jy pos=pure pos:=by
  unfold methodCallPos;rw[qt hl,beq_self_eq_true];rfl
 rw[arm_eval_Call,p6 hn];refine wpAny_bind (S.ee H l g fun bG aZ aX s₁ ji iX aV aO aY bD b9 aQ=>wpAny_bind (wpAny_standAt (aN aQ fun f hf aQ=> ?_)));obtain⟨hc,aQ⟩:=bA aQ;unfold methodCall;rw[KD];refine wpAny_bind (wpAny_holding (zc aY b9 hf fun z zs rz Ex t=>wpAny_bind (wpAny_of_eq sD ?_)));rw[QF hc]at rz;rw[show z=_ from rz.inv];have cP:au cx k A _ _ _ {s₁ with toks:=t}:=⟨aY.fit,aY.base,aY.rel⟩;refine callWith_of (P:=fun h=>True) (by rw[oQ hp];rfl) (fun h _=>⟨.machine,.inr (.inl rfl),Looks.of_pure rfl⟩) ?_;refine oR hp (Dr S cP bD aQ fun dj bH bW br vs ys bQ cK Px dX jO fL=>⟨trivial, ?_⟩);exact UY Px ((Ex.mono bQ.le).append jO) (Good.mono (fun v gv=>EV.into (EV.into (s':={s₁ with toks:=t}) gv aV aO) bQ cK) fL)
end
theorem Of{st st':St}{s0 s:Shared}{m:ai}{cs:List (Pos×Addr)}{E:dU}{Q:Flow→SP}(S:KS cx k A fe env T I0 jI n0 s0 I σ st s m cs)
  (Se:aU cx ev){o:Expr}{name:Str}{jy pos p:Pos}{args:List Expr}(hs:rQ (nJ (swapsWith (.Call (.Attribute o name jy) args [] pos) none p.line (iJ fe.scope)))=true)(e:SA cx ev k fe m st o name jy pos args=.ok (.none,st'))
  (h:∀I' af s',KS cx k A fe env T I0 jI n0 s0 I' af st' s' m cs→f7 I I'→Q .next s'):wpAny cx.M A (exec (.Expr (.Call (.Attribute o name jy) args [] pos) p) env) Q E s:=by
 refine wpAny_Expr_any (UZ (Q:=fun _ s'=>Q .next s') Se S.H S.l ?_) (Ho S.l) (by rw[Ey S.l];exact kY (p8 hs));rw[e];intro I' af y s' x sm _;exact h I' af s' (S.go (x.weaken fun _ q=>q.elim) sm (S.l.ext x)) x.le.i
noncomputable def jg(i:Nat):Stmt:=match jS i with
 |some s=>s
 |none=>.Pass default
noncomputable def lA:Arguments:=match jS 9 with
 |some s=>match s with
  |.Assign _ v _=>match v with
   |.Lambda a _ _ _=>a
   |_=>default
  |_=>default
 |none=>default
noncomputable def lB:Expr:=match jS 9 with
 |some s=>match s with
  |.Assign _ v _=>match v with
   |.Lambda _ b _ _=>b
   |_=>default
  |_=>default
 |none=>default
noncomputable def lSc:Scope:=match jS 9 with
 |some s=>match s with
  |.Assign _ v _=>match v with
   |.Lambda _ _ sc _=>sc
   |_=>default
  |_=>default
 |none=>default
noncomputable def abe:Pos:=match jS 9 with
 |some s=>match s with
  |.Assign _ v _=>match v with
   |.Lambda _ _ _ p=>p
   |_=>default
  |_=>default
 |none=>default
noncomputable def lT:Expr:=match jS 9 with
 |some s=>match s with
  |.Assign ts _ _=>match ts with
   |[t]=>t
   |_=>default
  |_=>default
 |none=>default
noncomputable def ZD:Pos:=match jS 9 with
 |some s=>match s with
  |.Assign _ _ p=>p
  |_=>default
 |none=>default
noncomputable def yV(i:Nat):Expr×Pos×List Expr×Pos×Pos:=match jS i with
 |some s=>match s with
  |.Expr e p=>match e with
   |.Call f a _ ps=>match f with
    |.Attribute o _ ap=>(o,ap,a,ps,p)
    |_=>(default,default,[],default,default)
   |_=>(default,default,[],default,default)
  |_=>(default,default,[],default,default)
 |none=>(default,default,[],default,default)
theorem X9:jg 7=.Expr (.Call (.Attribute (yV 7).1 "update" (yV 7).2.1) (yV 7).2.2.1 [] (yV 7).2.2.2.1) (yV 7).2.2.2.2:=⋯
theorem Yb:jg 8=.Expr (.Call (.Attribute (yV 8).1 "update" (yV 8).2.1) (yV 8).2.2.1 [] (yV 8).2.2.2.1) (yV 8).2.2.2.2:=⋯
theorem Yc:jg 9=.Assign [lT] (.Lambda lA lB lSc abe) ZD:=⋯
noncomputable def Il(t:Expr):Bool:=match t with
 |.Starred _ _=>false
 |_=>true
theorem tB(h:Il t=true):(assignEach [t] env).map (·.2)=[assign t env]:=by
 induction t using PySem.Expr.casesOn<;>first|rfl|exact ft h
noncomputable def mK(f0 f1 f2 f3 f4 f5:Addr):ai:=[("marks",.loc 0),("leave_or_done",.aL (.ref f0)),("made",.aL (.ref f1)),("toss",.aL (.ref f2)),("guarded",.aL (.ref f3)),("sending",.aL (.ref f4)),("settle",.aL (.ref f5))]
noncomputable def tC(f1 f2 f3 f4 f5:Addr):ai:=[("int",.aL (.ref f1)),("ivar",.aL (.ref f2)),("gvar",.aL (.ref f3)),("sending",.aL (.ref f4)),("settle",.aL (.ref f5)),("nil",.top 573)]
noncomputable def kN:ai:=[("array",.top 587),("values",.top 580),("seq",.top 594),("p_bind",.top 740),("p_value",.top 733)]
noncomputable def lV:ai:=[("p_alt",.top 747),("casein",.top 803),("matchp",.top 824),("matchq",.top 831)]
section
variable{p:Program}{w:World}{K:Frag}{k:Nat}{A:Around}{T:Addr}{I0 I:IM}{jI σ:Nat→Addr}{n0:Nat}{st:St}{s0 s:Shared}{m:ai}{cs:List (Pos×Addr)}{L:Addr}{E:dU}{Q:Flow→SP}
theorem U0(S:KS (bL p w K) k A fD (fP L) T I0 jI n0 s0 I σ st s m cs)(g:iL (iA (bL p w K) (cX (bL p w K) 60) k fD m st x)=true)(hn:ja (iA (bL p w K) (cX (bL p w K) 60) k fD m st x))
  (e1:yQ (iA (bL p w K) (cX (bL p w K) 60) k fD m st x)=.next)(e2:sY (iA (bL p w K) (cX (bL p w K) 60) k fD m st x)=m')(e3:lS (iA (bL p w K) (cX (bL p w K) 60) k fD m st x)=st')
  (h:∀I' af s',KS (bL p w K) k A fD (fP L) T I0 jI n0 s0 I' af st' s' m' cs→f7 I I'→Q .next s'):wpAny (model p w) A (exec x (fP L)) Q E s:=by
 refine mW (eX (mQ p w K) 60) S.H S.l (wY (S:=fun _ _ _ _ _=>False) (pre:=aI) g hn ?_).out;rw[e1,e2,e3];intro I' af f s' x sm ro;obtain⟨ro,l'⟩:=ro;obtain rfl:=ro;exact h I' af s' (S.go x sm l') x.le.i
theorem U1(S:KS (bL p w K) (k+20) A fD (fP L) T I0 jI n0 s0 I σ [.list [] []] s (mK f0 f1 f2 f3 f4 f5) [(iY 0,c0),(iY 1,c1),(iY 2,c2),(iY 3,c3),(iY 4,c4),(iY 5,c5)])(kb:KB I 1265 T)
  (h:∀I' af s' f6 y cs',KS (bL p w K) (k+20) A fD (fP L) T I0 jI n0 s0 I' af [.list [] [],.dict (tC f1 f2 f3 f4 f5++kN++lV++[(("case":Str),.aL (.ref f6))]),.dict kN,.dict lV] s' (mK f0 f1 f2 f3 f4 f5++[(("found":Str),.loc 1)]) cs'→f7 I I'→c7 I' f6 AN []→y=.ref (af 1)→Q (.ret y) s'):
  wpAny (model p w) A (execs [jg 6,jg 7,jg 8,jg 9,jg 10] (fP L)) Q E s:=by
 refine wpAny_execs_cons (U0 (st':=[.list [] [],.dict (tC f1 f2 f3 f4 f5)]) (m':=mK f0 f1 f2 f3 f4 f5++[(("found":Str),.loc 1)]) S ⋯ (gW ⋯) ⋯ ⋯ ⋯ fun I1 jq s1 S1 j1=> ?_);rw[X9,Yb];refine wpAny_execs_cons (Of (st':=[.list [] [],.dict (tC f1 f2 f3 f4 f5++kN),.dict kN]) S1 (eX (mQ p w K) 60) ⋯ ⋯ fun I2 fF s2 S2 j2=> ?_);refine wpAny_execs_cons (Of (st':=[.list [] [],.dict (tC f1 f2 f3 f4 f5++kN++lV),.dict kN,.dict lV]) S2 (eX (mQ p w K) 60) ⋯ ⋯ fun I3 j9 s3 S3 j3=> ?_);have k3:f7 I I3:=fun b o e=>j3 b o (j2 b o (j1 b o e));rw[Yc];refine wpAny_execs_cons (wpAny_Assign_stores (kla_eval (by rfl) (XY S3 rfl (kb.mono k3) (clos:=[]) ⋯ rfl ⋯ fun I4 s4 f6 c6 oc vs t pm sE S4 j4 g1 g2 g3 g4=> ?_)) ⋯ ⋯);have C6:c7 I4 f6 AN []:=⟨_,_,c6,oc,vs,t,g1,rfl,rfl,⟨⋯,⋯,⋯,rfl,rfl,rfl,rfl,⋯⟩,rfl,g2,g3,g4,rfl⟩;have e2:sY (xP (bL p w K) (cX (bL p w K) 60) (k+20) fD (mK f0 f1 f2 f3 f4 f5++[(("found":Str),.loc 1)]) [.list [] [],.dict (tC f1 f2 f3 f4 f5++kN++lV),.dict kN,.dict lV] lT (.aL (.ref f6)))=mK f0 f1 f2 f3 f4 f5++[(("found":Str),.loc 1)]:=⋯;have e3:lS (xP (bL p w K) (cX (bL p w K) 60) (k+20) fD (mK f0 f1 f2 f3 f4 f5++[(("found":Str),.loc 1)]) [.list [] [],.dict (tC f1 f2 f3 f4 f5++kN++lV),.dict kN,.dict lV] lT (.aL (.ref f6)))=[.list [] [],.dict (tC f1 f2 f3 f4 f5++kN++lV++[(("case":Str),.aL (.ref f6))]),.dict kN,.dict lV]:=⋯;have e1:yQ (xP (bL p w K) (cX (bL p w K) 60) (k+20) fD (mK f0 f1 f2 f3 f4 f5++[(("found":Str),.loc 1)]) [.list [] [],.dict (tC f1 f2 f3 f4 f5++kN++lV),.dict kN,.dict lV] lT (.aL (.ref f6)))=.next:=⋯;rw[tB (t:=lT) ⋯];refine Mg (Q:=fun f s'=>match f with|.next=>wpAny (model p w) A (execs [jg 10] (fP L)) Q E s'|f=>Q f s') (ev:=cX (bL p w K) 60) (v:=.aL (.ref f6)) (eX (mQ p w K) 60) S4.H S4.l (.aL _) (wY (S:=fun _ _ _ _ _=>False) (pre:=aI) ⋯ (gW ⋯) ?_).out;rw[e1,e2,e3];intro I5 F7 f s5 x sm ro;obtain⟨ro,l5⟩:=ro;obtain rfl:=ro;have S5:=S4.go x sm l5;have r2:lS (iA (bL p w K) (cX (bL p w K) 60) (k+20) fD (mK f0 f1 f2 f3 f4 f5++[(("found":Str),.loc 1)]) [.list [] [],.dict (tC f1 f2 f3 f4 f5++kN++lV++[(("case":Str),.aL (.ref f6))]),.dict kN,.dict lV] (jg 10))=[.list [] [],.dict (tC f1 f2 f3 f4 f5++kN++lV++[(("case":Str),.aL (.ref f6))]),.dict kN,.dict lV]:=⋯;have r1:yQ (iA (bL p w K) (cX (bL p w K) 60) (k+20) fD (mK f0 f1 f2 f3 f4 f5++[(("found":Str),.loc 1)]) [.list [] [],.dict (tC f1 f2 f3 f4 f5++kN++lV++[(("case":Str),.aL (.ref f6))]),.dict kN,.dict lV] (jg 10))=.ret (.loc 1):=⋯;have r3:sY (iA (bL p w K) (cX (bL p w K) 60) (k+20) fD (mK f0 f1 f2 f3 f4 f5++[(("found":Str),.loc 1)]) [.list [] [],.dict (tC f1 f2 f3 f4 f5++kN++lV++[(("case":Str),.aL (.ref f6))]),.dict kN,.dict lV] (jg 10))=mK f0 f1 f2 f3 f4 f5++[(("found":Str),.loc 1)]:=⋯;refine wpAny_execs_cons (mW (eX (mQ p w K) 60) S5.H S5.l (wY (S:=fun _ _ _ _ _=>False) (pre:=aI) ⋯ (gW ⋯) ?_).out);rw[r1,r2,r3];intro I6 vS f s6 x6 Og ro;obtain⟨ro,l6⟩:=ro;obtain⟨_,rfl,hy⟩:=ro;have S6:=S5.go x6 Og l6;exact(tX hy).1▸h I6 vS s6 f6 (.ref (vS 1)) _ S6 (fun b o e=>x6.le.i b o (x.le.i b o (j4 b o (k3 b o e)))) (C6.mono fun b o e=>x6.le.i b o (x.le.i b o e)) rfl
end
theorem c7.rep(h:c7 I f fl clos)(r:iW I P σ n free clos):aq I P σ n (.jw fl free) (.ref f):=by
 obtain⟨o,fd,c,co,vs,t,h1,h2,h3,h4,h5,h6,h7,h8,rfl⟩:=h;exact .jw h1 h2 h3 h4 h5 h6 h7 h8 r
theorem U3(hl:l<n')(gm:I cm=some om)(dm:om.data=.cell (some (.ref (af l))))(gl:I cl=some ol)(dl:ol.data=.cell (some (.ref f0)))
  (C0:c7 I f0 (dN "leave_or_done" 0) [])(C1:c7 I f1 (dN "made" 1) [(("marks":Str),cm),(("leave_or_done":Str),cl)])(C2:c7 I f2 (dN "toss" 2) [(("leave_or_done":Str),cl)])(C3:c7 I f3 (dN "guarded" 3) [(("marks":Str),cm),(("leave_or_done":Str),cl)])
  (C4:c7 I f4 (dN "sending" 4) [(("marks":Str),cm),(("leave_or_done":Str),cl)])(C5:c7 I f5 (dN "settle" 5) [(("marks":Str),cm)])(C6:c7 I f6 AN [])
  (r:bF I P σ n (tC f1 f2 f3 f4 f5++kN++lV++[(("case":Str),.aL (.ref f6))]) es):bF I P af n' (zB l) es:=by
 have rl:aq I P af n' J3 (.ref f0):=C0.rep .nil;have rm:aq I P af n' (.loc l) (.ref (af l)):=.loc l hl;have QG:iW I P af n' (DC l) [(("marks":Str),cm),(("leave_or_done":Str),cl)]:=.cons gm dm rm (.cons gl dl rl .nil);have lo:iW I P af n' [(("leave_or_done":Str),J3)] [(("leave_or_done":Str),cl)]:=.cons gl dl rl .nil;have mk:iW I P af n' [(("marks":Str),V.loc l)] [(("marks":Str),cm)]:=.cons gm dm rm .nil;exact bR (j0 (C1.rep QG)) (bR (j0 (C2.rep lo)) (bR (j0 (C3.rep QG)) (bR (j0 (C4.rep QG)) (bR (j0 (C5.rep mk)) (bR (fU) (bR (fU) (bR (fU) (bR (fU) (bR (fU) (bR (fU) (bR (fU) (bR (fU) (bR (fU) (bR (fU) (bR (j0 (C6.rep .nil)) (Lr)))))))))))))))) es r
noncomputable def jr(f1 f2 f3 f4 f5 f6:Addr):List (Str×V):=tC f1 f2 f3 f4 f5++kN++lV++[(("case":Str),.aL (.ref f6))]
theorem U4(r:bF I P σ n (jr f1 f2 f3 f4 f5 f6) es):bF I' P af n' (jr f1 f2 f3 f4 f5 f6) es:=by
 exact bR (j0 (.aL _)) (bR (j0 (.aL _)) (bR (j0 (.aL _)) (bR (j0 (.aL _)) (bR (j0 (.aL _)) (bR (fU) (bR (fU) (bR (fU) (bR (fU) (bR (fU) (bR (fU) (bR (fU) (bR (fU) (bR (fU) (bR (fU) (bR (j0 (.aL _)) (Lr)))))))))))))))) es r
def o6(I:IM)(a f1 f2 f3 f4 f5 f6:Addr):Prop:=∃f0 cm cl om ol,I cm=some om∧om.data=.cell (some (.ref a))∧I cl=some ol∧ol.data=.cell (some (.ref f0))∧
 c7 I f0 (dN "leave_or_done" 0) []∧c7 I f1 (dN "made" 1) [("marks",cm),("leave_or_done",cl)]∧c7 I f2 (dN "toss" 2) [("leave_or_done",cl)]∧c7 I f3 (dN "guarded" 3) [("marks",cm),("leave_or_done",cl)]∧
 c7 I f4 (dN "sending" 4) [("marks",cm),("leave_or_done",cl)]∧c7 I f5 (dN "settle" 5) [("marks",cm)]∧c7 I f6 AN []
theorem o6.mono(h:o6 I a f1 f2 f3 f4 f5 f6)(i:f7 I I'):o6 I' a f1 f2 f3 f4 f5 f6:=by
 obtain⟨f0,cm,cl,om,ol,h1,h2,h3,h4,C0,C1,C2,C3,C4,C5,C6⟩:=h;exact⟨f0,cm,cl,om,ol,i _ _ h1,h2,i _ _ h3,h4,C0.mono i,C1.mono i,C2.mono i,C3.mono i,C4.mono i,C5.mono i,C6.mono i⟩
theorem o6.tell(h:o6 I (σ l) f1 f2 f3 f4 f5 f6)(hl:l<n)(r:dw I P σ n (.dict (jr f1 f2 f3 f4 f5 f6)) ob):dw I P σ n (.dict (zB l)) ob:=by
 obtain⟨f0,cm,cl,om,ol,h1,h2,h3,h4,C0,C1,C2,C3,C4,C5,C6⟩:=h;replace r:=r.inv;induction r using kP.casesOn with|mk ep r=>exact .dict ep (U3 hl h1 h2 h3 h4 C0 C1 C2 C3 C4 C5 C6 r)
theorem aM.seen(x:aM P X I σ n h I' af st' h')(n1:I' b=none)(g:h'.get? b=some o)(d:h.get? b=none)(ne:∀j,j<st'.length→af j≠b):aM P X I σ n h (dW I' b o) af st' h':=by
 have i1:f7 I' (dW I' b o):=lI o n1;refine⟨⟨fun c y e=>i1 c y (x.le.i c y e),x.le.s,x.le.n⟩,fun c y e=> ?_,x.new,⟨fun c y e=> ?_,fun k y e=> ?_,x.rel.inj,fun k hk=> ?_⟩,x.keep,x.alive⟩
 ·rcases eU e with⟨q,_⟩|⟨_,e⟩
  ·exact .inr (q▸d)
  ·exact x.fresh c y e
 ·rcases eU e with⟨q,q2⟩|⟨_,e⟩
  ·rw[q,q2];exact g
  ·exact x.rel.sub c y e
 ·obtain⟨ob,h1,h2⟩:=x.rel.cells k y e;exact⟨ob,h1,h2.mono ⟨i1,fun _ _=>rfl,qf _⟩⟩
 ·exact(if_neg (ne k hk)).trans (x.rel.out k hk)
theorem aM.back{σ j9:Nat→Addr}{st Oh:St}{h h3:Heap}{l:Nat}{F:ai}(R:cG P I σ st h)(hl:st[l]? =some (.list [] []))(x:aM P X I (fun _=>σ l) 1 h I3 j9 Oh h3)(e0:Oh[0]? =some (.list [] []))(e1:Oh[1]? =some (.dict F))
  (any:∀af n' es,bF I3 P j9 Oh.length F es→bF I3 P af n' F es)(nX:∀b o,h.get? b=some o→b≠T→¬X b)(sT:∀j,j<st.length→σ j≠T):aM P (fun b=>b=T) I σ st.length h I3 (gj σ st.length (j9 1)) (st++[.dict F]) h3:=by
 have ln:(st++[AO.dict F]).length=st.length+1:=List.length_append;have Oi:l<st.length:=(List.getElem?_eq_some_iff.mp hl).1;have l3:1<Oh.length:=(List.getElem?_eq_some_iff.mp e1).1;have s0:j9 0=σ l:=x.le.s 0 Nat.one_pos;have dead:h.get? (j9 1)=none:=x.new 1 (qf _) l3;have CC:∀b o,h.get? b=some o→b≠T→σ l≠b→h3.get? b=some o:=fun b o e q r=>x.keep b o e (nX b o e q) fun _ _=>r;have ne:∀j,j<st.length→σ j≠j9 1:=fun j hj q=>by
  obtain⟨o,e⟩:=R.live hj;rw[q,dead]at e;exact nn e
 have sg:∀j,j<st.length→gj σ st.length (j9 1) j=σ j:=fun j hj=>jx _ hj;have sz:gj σ st.length (j9 1) st.length=j9 1:=eG ..;have le:Le I I3 σ (gj σ st.length (j9 1)) st.length (st.length+1):=⟨x.le.i,sg,qM _⟩;have or:∀{j},j<(st++[AO.dict F]).length→j<st.length∨j=st.length:=fun hj=>Nat.lt_succ_iff_lt_or_eq.mp (Nat.lt_of_lt_of_eq hj ln);refine⟨ln▸le,x.fresh,fun j a b=> ?_,⟨x.rel.sub,fun j o e=> ?_,fun i j hi hj e=> ?_,fun j hj=> ?_⟩,fun b o e hx hk=>CC b o e hx (hk l Oi),x.alive⟩
 ·rcases or b with q|q
  ·exact absurd q (Nat.not_lt_of_le a)
  ·rw[q,sz];exact dead
 ·rw[ln];rcases or (List.getElem?_eq_some_iff.mp e).1 with a|a
  ·rw[qz a]at e;rw[sg j a];by_cases q:j=l
   ·rw[q,hl]at e;rw[q,←qc e,←s0];obtain⟨ob,g,r⟩:=x.rel.cells 0 _ e0;refine⟨ob,g, ?_⟩;replace r:=r.inv;induction r using jZ.casesOn with|mk ep hp r=>rw[show _=[]from r.inv]at*;exact .list ep hp .nil
   ·obtain⟨ob,g,r⟩:=R.cells j o e;exact⟨ob,CC _ _ g (sT j a) (fun z=>q (R.inj l j Oi a z).symm),r.mono le⟩
  ·rw[a,qx (qf _),Nat.sub_self]at e;rw[a,sz,←qc e];obtain⟨ob,g,r⟩:=x.rel.cells 1 _ e1;refine⟨ob,g, ?_⟩;replace r:=r.inv;induction r using kP.casesOn with|mk ep r=>exact .dict ep (any _ _ _ r)
 ·rcases or hi with a|a<;>rcases or hj with b|b
  ·rw[sg i a,sg j b]at e;exact R.inj i j a b e
  ·rw[b,sg i a,sz]at e;exact absurd e (ne i a)
  ·rw[a,sg j b,sz]at e;exact absurd e.symm (ne j b)
  ·rw[a,b]
 ·rcases or hj with a|a
  ·rw[sg j a];obtain⟨o,e⟩:=R.live a;induction q:I3 (σ j)using qe with
   |none=>rfl
   |some o'=>
    rcases x.fresh _ _ q with z|z
    ·rw[R.out j a]at z;exact nn z
    ·rw[e]at z;exact ns z
  ·rw[a,sz];exact x.rel.out 1 l3
theorem Yd(r:aq I P σ n (.loc l) y):y=.ref (σ l):=by
 obtain⟨_⟩:=r.inv;rfl
theorem KS.two{p:Program}{w:World}{K:Frag}{k:Nat}{A:Around}{T:Addr}{I0 I:IM}{jI σ:Nat→Addr}{n0:Nat}{st:St}(S:KS (bL p w K) k A fD (fP s0.heap.objs.size) T I0 jI n0 s0 I σ st s m cs)(rO:∀b,aF (fP s0.heap.objs.size) b→s0.heap.get? b=none)
  (m1:lk ("marks":Str) m=some (.loc 0))(m2:lk ("leave_or_done":Str) m=some (.aL (.ref f0))):∃om ol I',om.data=.cell (some (.ref (σ 0)))∧ol.data=.cell (some (.ref f0))∧I' (s0.heap.objs.size+1)=some om∧I' (s0.heap.objs.size+2)=some ol∧f7 I I'∧aM w.params (fun b=>b=T∨aF (fP s0.heap.objs.size) b) I0 jI n0 s0.heap I' σ st s.heap:=by
 have L1:(fP s0.heap.objs.size).cells.lookup ("marks":Str)=some (s0.heap.objs.size+1):=⋯;have L2:(fP s0.heap.objs.size).cells.lookup ("leave_or_done":Str)=some (s0.heap.objs.size+2):=⋯;have K1:(fP s0.heap.objs.size).kindOf "marks"=some .cell:=⋯;have K2:(fP s0.heap.objs.size).kindOf "leave_or_done"=some .cell:=⋯;obtain⟨a1,y1,b1,⟨om,gm,dm⟩,r1⟩:=S.l.cell _ _ m1 K1;obtain⟨a2,y2,b2,⟨ol,gl,dl⟩,r2⟩:=S.l.cell _ _ m2 K2;obtain rfl:=qc (L1.symm.trans b1);obtain rfl:=qc (L2.symm.trans b2);have O1:aF (fP s0.heap.objs.size) (s0.heap.objs.size+1):=.inr ⟨_,K1,L1⟩;have O2:aF (fP s0.heap.objs.size) (s0.heap.objs.size+2):=.inr ⟨_,K2,L2⟩;have x1:=S.x.seen (S.l.apart _ O1).1 gm (rO _ O1) fun j hj=>(S.l.apart _ O1).2 j hj;have n2:dW I (s0.heap.objs.size+1) om (s0.heap.objs.size+2)=none:=(if_neg (Nat.ne_of_gt (qE _))).trans (S.l.apart _ O2).1;have x2:=x1.seen n2 gl (rO _ O2) fun j hj=>(S.l.apart _ O2).2 j hj;have i2:f7 (dW I (s0.heap.objs.size+1) om) (dW (dW I (s0.heap.objs.size+1) om) (s0.heap.objs.size+2) ol):=lI ol n2;exact⟨om,ol,_,Yd r1▸dm,(r2.inv:y2=_)▸dl,i2 _ _ (kQ ..),kQ ..,fun b o e=>i2 b o (lI om (S.l.apart _ O1).1 b o e),x2⟩
section
variable{K:Frag}{st:St}
theorem KG(H:au (bL p w K) (k+21) A I σ st s)(hl:st[l]? =some (.list [] []))(kb:KB I 1265 T)(iT:I T=none)(sT:∀j,j<st.length→σ j≠T)(tab:s.heap.get? T=some (tabObj #[]))
  (h:∀I' af s' y f1 f2 f3 f4 f5 f6,aM w.params (fun b=>b=T) I σ st.length s.heap I' af (st++[.dict (jr f1 f2 f3 f4 f5 f6)]) s'.heap→bw s s'→o6 I' (af l) f1 f2 f3 f4 f5 f6→aq I' w.params af (st++[AO.dict (jr f1 f2 f3 f4 f5 f6)]).length (.loc st.length) y→(∃ps,s'.heap.get? T=some (tabObj ps))→Q y s'):
  wpAny (model p w) A (call (.ref 1266) [.ref (σ l)]) Q E s:=by
 have Oi:l<st.length:=(List.getElem?_eq_some_iff.mp hl).1;have H1:au (bL p w K) (k+20+1) A I (fun _=>σ l) [AO.list [] []] s:=⟨H.fit,H.base,JM H.rel hl rfl⟩;obtain⟨⟨o,h1,h2,h3⟩,hc,gl,bl,cl,df⟩:=H.base.fns 1266 nL [] (q9 (a:=1266) ⋯);refine zH (E:=E) (m:=[(("marks":Str),.loc 0)]) (body:=jH nL) H1 h1 h3 gl bl hc cl ⋯ (.cons (aq.loc (σ:=fun _=>σ l) 0 (by show 0<1;decide)) .nil) ⋯ ⋯ ⋯ fun env s₁ he rO kp sm hf lo E'=> ?_;have he:env=fP s.heap.objs.size:=by
  rcases he with⟨q,_⟩|⟨_,q⟩
  ·have:gI nL.scope.names=false:=⋯;rw[this]at q;exact ft q
  ·exact q
 subst he;have ex:=aM.grow H1.rel kp;have oT:¬aF (fP s.heap.objs.size) T:=fun q=>by rw[rO T q]at tab;exact nn tab
 have S1:KS (bL p w K) (k+20) (A.deeper (fP s.heap.objs.size)) fD (fP s.heap.objs.size) T I (fun _=>σ l) 1 s I (fun _=>σ l) [.list [] []] s₁ [(("marks":Str),.loc 0)] []:=
  ⟨⟨hf,H.base,ex.rel⟩,lo,ex.weaken fun _ q=>q.elim,sm,kp _ _ tab,iT,fun _ _=>sT l Oi,oT⟩
 refine X5 (rest:=[jg 6,jg 7,jg 8,jg 9,jg 10]) ⋯ S1 kb fun I2 s2 f0 f1 f2 f3 f4 f5 c0 c1 c2 c3 c4 c5 S2 j2 C0 C1 C2 C3 C4 C5=> ?_;refine@U1 p w K k (A.deeper (fP s.heap.objs.size)) T I I2 (fun _=>σ l) (fun _=>σ l) 1 s s2 s.heap.objs.size _ _ f0 f1 f2 f3 f4 f5 c0 c1 c2 c3 c4 c5 S2 (kb.mono j2) ?_;intro I3 j9 s3 f6 y cs3 S3 j3 C6 hy;subst hy;obtain⟨om,ol,I4,dm,dl,em,el,i4,x4⟩:=S3.two rO ⋯ ⋯;have nX:∀b o,s.heap.get? b=some o→b≠T→¬(b=T∨aF (fP s.heap.objs.size) b):=fun b o e q z=>z.elim q fun z=>by rw[rO b z]at e;exact nn e
 have X:=aM.back H.rel hl x4 rfl rfl (fun af n' es r=>U4 r) nX sT;have i3:∀{f fl cl},c7 I2 f fl cl→c7 I4 f fl cl:=fun c=>(c.mono j3).mono i4;have rl:aq I4 w.params (gj σ st.length (j9 1)) (st++[AO.dict (jr f1 f2 f3 f4 f5 f6)]).length (.loc st.length) (.ref (gj σ st.length (j9 1) st.length)):=.loc st.length (by rw[List.length_append];exact qE _);rw[eG]at rl;refine h I4 _ s3 _ f1 f2 f3 f4 f5 f6 X S3.sm ⟨f0,s.heap.objs.size+1,s.heap.objs.size+2,om,ol,em, ?_,el,dl,i3 C0,i3 C1,i3 C2,i3 C3,i3 C4,i3 C5,C6.mono i4⟩ rl ⟨_,S3.tab⟩;rw[jx _ Oi,dm,show j9 0=σ l from S3.x.le.s 0 Nat.one_pos]
end
theorem av.abf(l:av P fe m env I σ n h)(hf:fe.free=[])
  (x:aM P X I σ n h I' af st' h')(hX:∀b,aF env b→¬X b):av P fe m env I' af st'.length h':=by
 have own:∀b,aF env b→∀o,h.get? b=some o→h'.get? b=some o:=fun b ob o e=>x.keep b o e (hX b ob) (l.apart b ob).2;have live:∀b,aF env b→∃o,h.get? b=some o:=by
  rintro b (rfl|⟨y,hy,hc⟩)
  ·obtain⟨mm,⟨o,_,_,ho,_⟩,_⟩:=l.ns;exact⟨o,ho⟩
  ·obtain⟨c,v,h1,o,ho,_⟩:=l.there y hy;rw[hc]at h1;obtain rfl:=qc h1;exact⟨o,ho⟩
 have zP:∀b o,h.get? b=some o→(∀k,k<n→σ k≠b)→∀k,k<st'.length→af k≠b:=fun b o hb hk k nE=>by
  by_cases q:k<n
  ·rw[x.le.s k q];exact hk k q
  ·intro z;have:=x.new k (qA q) nE;rw[z,hb]at this;cases this
 refine⟨l.scope,l.kind,l.glob,l.blt, ?_,fun y v e hk=> ?_,fun y hk=> ?_,fun y v e hk=> ?_,fun b hb=>⟨?_,(by obtain⟨o,ho⟩:=live b hb;exact zP b o ho (l.apart b hb).2)⟩,l.ne,l.inj⟩
 ·obtain⟨mm,⟨o,es,ep,ho,r⟩,h2⟩:=l.ns;exact⟨mm,⟨o,es,ep,own _ (.inl rfl) o ho,r⟩,fun y v e hk=>(by obtain⟨z,a,b⟩:=h2 y v e hk;exact⟨z,a,b.mono x.le⟩)⟩
 ·obtain⟨c,z,h1,h2,h3⟩:=l.cell y v e hk;exact⟨c,z,h1,f9 h2 (own c (.inr ⟨y,hk,h1⟩)),h3.mono x.le⟩
 ·obtain⟨c,z,h1,h2⟩:=l.there y hk;exact⟨c,z,h1,f9 h2 (own c (.inr ⟨y,hk,h1⟩))⟩
 ·rw[hf]at e;exact nn e
 ·induction q:I' b using qe with
  |none=>rfl
  |some o=>
   rcases x.fresh b o q with z|z
   ·rw[(l.apart b hb).1]at z;exact nn z
   ·obtain⟨o',ho⟩:=live b hb;rw[z]at ho;exact nn ho
section
variable{st:St}
theorem Im(b:iI cx I)(rf:aq I cx.P σ n f y)(hc:oF cx f=true)(hh:Heap)(hi:∀b o,I b=some o→hh.get? b=some o):∃kk,(kk=Keeper.frame∨kk=Keeper.machine∨kk=Keeper.boundFrame)∧Looks cx.M hh (keeperOf y) kk:=by
 have r:=rf.inv;induction f using V.casesOn with
 |bi=>rw[show y=_ from r];exact⟨.machine,.inr (.inl rfl),Looks.of_pure rfl⟩
 |ty=>rw[show y=_ from r];exact⟨.machine,.inr (.inl rfl),Looks.of_pure rfl⟩
 |top=>rw[show y=_ from r];exact keeps_K (List.all_eq_true.mp b.tabs.keeps _ (uQ hc)) hh (b.zO hi)
 |jw=>
  induction r using rC.casesOn with
  |mk h1 wz hd hf Cm DO DP hq rc=>
   refine⟨.frame,.inl rfl,(Looks.ld (part:=none) (hi _ _ h1)).andThen ?_⟩;rw[hd];exact .now
 |_=>exact ft hc
theorem vv(hp:g8 es=true)(hc:oF cx f=true)(H:au cx k A I σ st s)(rf:aq I cx.P σ st.length f y)
  (h:wpAny cx.M A (spliced (backTo pos (starEach es env))) (fun vs s₁=>(∀b o,I b=some o→s₁.heap.get? b=some o)∧wpAny cx.M A (call y ([]++vs)) Q E s₁) E s):wpAny cx.M A (callWith pos y [] (backTo pos (starEach es env)) []) Q E s:=by
 exact callWith_of (P:=fun h=>∀b o,I b=some o→h.get? b=some o) (by rw[oQ hp];rfl) (Im H.base rf hc) (oR hp h)
theorem ku(Sd:aU cx ev)(H:au cx k A I σ st s)(l:av cx.P fe m env I σ st.length s.heap)(g:iL (ev.e k fe m st x)=true)(hn:ja (ev.e k fe m st x))(e1:rW (ev.e k fe m st x)=v)(e2:rX (ev.e k fe m st x)=st')
  (h:∀I' af s' y,aM cx.P (fun _=>False) I σ st.length s.heap I' af st' s'.heap→bw s s'→au cx k A I' af st' s'→av cx.P fe m env I' af st'.length s'.heap→aq I' cx.P af st'.length v y→Q y s'):wpAny cx.M A (eval x env) Q E s:=by
 refine Sd.e H l (MH (S:=cx.S) (pre:=cx.pre) g hn ?_).out;rw[e1,e2];intro I' af y s' x sm r;exact h I' af s' y x sm (H.go x) (l.ext x) r
end
noncomputable def vz(e:Expr):Pos:=match e with
 |.Call _ _ _ p=>p
 |_=>default
noncomputable def mR(e:Expr):Expr:=match e with
 |.Call f _ _ _=>f
 |_=>default
noncomputable def sF(e:Expr):List Expr:=match e with
 |.Call _ a _ _=>a
 |_=>[]
noncomputable def zI(l:List Expr)(i:Nat):Expr:=match di l i with
 |some e=>e
 |none=>default
noncomputable def Ye(s:Stmt):Expr:=match s with
 |.Assign _ v _=>v
 |_=>default
noncomputable def F8(s:Stmt):Expr:=match s with
 |.Assign ts _ _=>match ts with
  |[t]=>t
  |_=>default
 |_=>default
noncomputable def Yg(s:Stmt):Pos:=match s with
 |.Assign _ _ p=>p
 |_=>default
noncomputable def Oj:Expr:=Ye (fq 2)
noncomputable def Yh:Expr:=zI (sF Oj) 0
noncomputable def Ol:Expr:=zI (sF Oj) 1
noncomputable def Om:Expr:=zI (sF Oj) 2
theorem ZE:fq 2=.Assign [F8 (fq 2)] (.Call (mR Oj) [Yh,.Call (mR Ol) (sF Ol) [] (vz Ol),Om] [] (vz Oj)) (Yg (fq 2)):=⋯
section
variable{P:Params}{st:St}
theorem cG.alter(r:cG P I σ st h)(e:st[j]? =some o)(hr:∀ob,h.get? (σ j)=some ob→dw I P σ st.length o ob→dw I P σ st.length o' ob):cG P I σ (st.set j o') h:=by
 have ln:(st.set j o').length=st.length:=by simp
 refine⟨r.sub,fun i x q=> ?_,fun a b ha hb=>r.inj a b (ln▸ha) (ln▸hb),fun i hi=>r.out i (ln▸hi)⟩;rw[ln];rw[List.getElem?_set]at q;by_cases z:j=i
 ·subst z;rw[if_pos rfl,if_pos (List.getElem?_eq_some_iff.mp e).1]at q;obtain rfl:=qc q;obtain⟨ob,g,gB⟩:=r.cells j o e;exact⟨ob,g,hr ob g gB⟩
 ·rw[if_neg z]at q;exact r.cells i x q
theorem A9(g:I a=some (dictOf [] ep))(hs:a≠sysModules)(q:aq I P σ n (.aL (.ref a)) x):aq I P σ n (.fy []) x:=by
 cases q.inv
 exact .fy (es:=[]) (beq_eq_false_iff_ne.mpr hs) g .nil
end
noncomputable def pM(a b c d t ln made out main:V):AO:=.dict [("natives",a),("prelude",b),("read",.none),("most",.int 20000),("taken",t),("last_number",ln),
 ("last_ident",.int 8),("symbol_idents",c),("made",made),("version",.int 0),("const_version",.int 0),("globals",d),("out",out),("is_ready",.bool true),("main",main)]
theorem F9(ga:∃e,I a=some (dictOf [] e))(gb:∃e,I b=some (dictOf [] e))(gc:∃e,I c=some (dictOf [] e))(gd:∃e,I d=some (dictOf [] e))
  (na:a≠sysModules)(nb:b≠sysModules)(nc:c≠sysModules)(nd:d≠sysModules)(h:dw I P σ n (pM (.aL (.ref a)) (.aL (.ref b)) (.aL (.ref c)) (.aL (.ref d)) t ln mk out main) ob):dw I P σ n (pM (.fy []) (.fy []) (.fy []) (.fy []) t ln mk out main) ob:=by
 obtain⟨ea,ga⟩:=ga;obtain⟨eb,gb⟩:=gb;obtain⟨ec,gc⟩:=gc;obtain⟨ed,gd⟩:=gd;induction h.inv using kP.casesOn with
 |mk ep r=>exact .dict ep (bR (fun _=>A9 ga na) (bR (fun _=>A9 gb nb) (bR (fun _ h=>h) (bR (fun _ h=>h) (bR (fun _ h=>h) (bR (fun _ h=>h) (bR (fun _ h=>h) (bR (fun _=>A9 gc nc) (bR (fun _ h=>h) (bR (fun _ h=>h) (bR (fun _ h=>h) (bR (fun _=>A9 gd nd) (fun _ r=>r)))))))))))) _ r)
section
variable{cx:Cx}{st:St}
theorem Ga(l:av cx.P fe m env I σ st.length s.heap)(hs:rQ (nJ (swapsWithSole [t] v p.line (iJ fe.scope)))=true)(ho:nJ (swappedStores [t] v (iJ fe.scope))=some none)(hn:Il t=true)
  (h:wpAny cx.M A (eval v env) (fun y s₁=>wpAny cx.M A (assign t env y) (fun _=>Q .next) E s₁) E s):wpAny cx.M A (exec (.Assign [t] v p) env) Q E s:=by
 have hs':swapsWithSole [t] v p.line env=pure false:=by rw[rP l];exact kY (p8 hs)
 have Wa:swappedStores [t] v env=pure none:=by rw[Af l];exact kY ho
 refine wpAny_Assign_stores (wpAny_mono h (fun y s₁ Po=> ?_) fun _ _ x=>x) hs' Wa;rw[tB hn];exact Po
end
section
variable{K:Frag}
noncomputable abbrev Oo(p:Program)(w:World)(K:Frag)(k:Nat)(m:ai):aA (V×St):=(cX (bL p w K) 200).e (k+100) bP m jf Yh
noncomputable def woL(r:aA (V×St)):List (Option AO):=match rX r with
 |st=>[di st 0,di st 1,di st 2,di st 3,di st 4,di st 5,di st 6,di st 7,di st 8]
theorem ZF:(iL (Oo p w K k m),rW (Oo p w K k m),woL (Oo p w K k m))=(true,.loc 4,[some (.list [] []),some (.list [] []),some (.dict []),some (pM (.loc 2) (.loc 5) (.loc 6) (.loc 8) (.int 0) (.int 6) (.loc 7) (.loc 9) (.loc 51)),some (.inst 1111 3),some (.dict []),some (.dict []),
  some (.dict [(("Object":Str),.loc 11),(("BasicObject":Str),.loc 18),(("Class":Str),.loc 25),(("Module":Str),.loc 32),(("Kernel":Str),.loc 43)]),some (.dict [])]):=⋯
theorem U5:ja (Oo p w K k m):=nd (p:=1≤500∧6≤500∧7≤16777216∧7≤16777216∧12≤16777216∧12≤16777216∧6≤16777216∧6≤16777216∧7≤16777216∧7≤16777216∧7≤16777216∧7≤16777216∧True) ⋯ ⟨by decide,by decide,by decide,by decide,by decide,by decide,by decide,by decide,by decide,by decide,by decide,by decide,trivial⟩
end
theorem U6{aD:List Nat}(h:aD.Nodup):∀(i j k:Nat),aD[i]? =some k→aD[j]? =some k→i=j:=fun i j k e1 e2=>by
 obtain⟨h1,g1⟩:=List.getElem?_eq_some_iff.mp e1;obtain⟨h2,g2⟩:=List.getElem?_eq_some_iff.mp e2;rcases Nat.lt_trichotomy i j with q|q|q
 ·exact absurd (g1.trans g2.symm) (List.pairwise_iff_getElem.mp h i j h1 h2 q)
 ·exact q
 ·exact absurd (g2.trans g1.symm) (List.pairwise_iff_getElem.mp h j i h2 h1 q)
noncomputable def Yi(a b c d e:Addr):Nat→Addr
 |0=>a
 |1=>b
 |2=>c
 |3=>d
 |_=>e
noncomputable def Dg(q:Nat→Addr)(out main:Value):St:=[.list [] [],.list [] [],pM (.fy []) (.fy []) (.fy []) (.fy []) (.num 0) (.num 6) (.loc 4) (.aL out) (.aL main),.inst 1111 2,.dict (vP q)]
structure LS (p:Program) (w:World) (K:Frag) (L:LW) (B:Bs) (f:Bool) (I:IM) (σ:Nat→Addr) (st:St) (m:ai) (s:Shared):Prop where
 W:fJ 0 B I σ st.length s
 H:au (bL p w K) L.k L.A I σ st s
 l:av w.params L.fe m L.env I σ st.length s.heap
 t:mZ L f I σ st.length s
section
variable{K:Frag}
theorem LS.choose{f:Bool}{I dj:IM}{σ bH:Nat→Addr}{st bW st':St}{m m₂ m':ai}(S:LS p w K L B f I σ st m s)(hf:L.fe.free=[])(hX:∀b,X b→B.X b)(x:aM w.params X I σ st.length s.heap dj bH bW br.heap)(sm:bw s br)
  (dX:av w.params L.fe m₂ L.env dj bH bW.length br.heap)(QH:mZ L QI dj bH bW.length br)(fw:nR 0 aD z bH bW st')(fm:mF 0 aD z bH bW false m₂ m'):LS p w K L B QI (c9 dj bH z bW.length br.heap) (dY aD bH) st' m' br:=by
 have cP:au (bL p w K) L.k L.A dj bH bW br:=S.H.go x;refine⟨S.W.choose (qm _) hX x sm fw,⟨S.H.fit,cP.base.mono fT,cP.rel.choose fw⟩, ?_,QH.choose fw⟩;rw[fw.len];exact dX.vq cP.rel fm hf fw.vc fun j k e=>(fw.lt j k e).1
theorem U7{E:dU}{Q:dU}{ns:List Int}{T:Tree 3}(hk:L.k=k+100)(eO:L.fe=bP)(S:LS p w K L B true I σ jf (gT ns (.aL bg) T) s)
  (x1:aM w.params (fun _=>False) I σ jf.length s.heap I1 jq jf s1.heap)(xj:bw s s1)(l1:av w.params L.fe (gT ns (.aL bg) T) L.env I1 jq jf.length s1.heap)
  (h:∀I' af s' y q out main,LS p w K L B true I' af (Dg q out main) (gT ns (.aL bg) T) s'→f7 I1 I'→aq I' w.params af 5 (.loc 3) y→Q y s'):wpAny (model p w) L.A (eval Yh L.env) Q E s1:=by
 have H1:au (bL p w K) (k+100) L.A I1 jq jf s1:=hk▸S.H.go x1;have f:=ZF (p:=p) (w:=w) (K:=K) (k:=k) (m:=gT ns (.aL bg) T);simp only[Prod.mk.injEq]at f;obtain⟨f1,f2,f3⟩:=f;have l1':av w.params bP (gT ns (.aL bg) T) L.env I1 jq jf.length s1.heap:=eO▸l1;refine ku (cx:=bL p w K) (eX (mQ p w K) 200) H1 l1' f1 U5 f2 rfl fun I2 fF s2 y x2 Ba H2 l2 r2=> ?_;have Yj:=f3;unfold woL at Yj;generalize hS:rX (Oo p w K k (gT ns (.aL bg) T))=S1 at*;simp only[List.cons.injEq,and_true]at Yj;obtain⟨e0,e1,e2,e3,e4,e5,e6,e7,e8⟩:=Yj;have d2:dictAt S1 2=some []:=by unfold dictAt;rw[e2];rfl
 have d5:dictAt S1 5=some []:=by unfold dictAt;rw[e5];rfl
 have d6:dictAt S1 6=some []:=by unfold dictAt;rw[e6];rfl
 have d8:dictAt S1 8=some []:=by unfold dictAt;rw[e8];rfl
 rw[gH]at e0 e1 e2 e3 e4 e5 e6 e7 e8;have lt:∀{j:Nat} {o:AO},S1[j]? =some o→j<S1.length:=fun e=>(List.getElem?_eq_some_iff.mp e).1;have ns':∀j,j<S1.length→fF j≠sysModules:=fun j hj q=>by
  obtain⟨o,ho⟩:=H2.base.tK;have:=H2.rel.out j hj;rw[q,ho]at this;cases this
 have fw:nR 0 [0,1,3,4,7] (· ∈[2,5,6,8]) fF S1 [.list [] [],.list [] [],pM (.aL (.ref (fF 2))) (.aL (.ref (fF 5))) (.aL (.ref (fF 6))) (.aL (.ref (fF 8))) (.num 0) (.num 6) (.loc 4) (.aL (.ref (fF 9))) (.aL (.ref (fF 51))),.inst 1111 2,.dict (vP (Yi (fF 11) (fF 18) (fF 25) (fF 32) (fF 43)))]:=
  wZ rfl (.cons e0 (.fix rfl) (.cons e1 (.fix rfl) (.cons e3 (.dict (.cons (.aL 2) (.cons (.aL 5) (.cons (.closed rfl) (.cons (.closed rfl) (.cons (.Nd 0) (.cons (.Nd 6) (.cons (.closed rfl) (.cons (.aL 6) (.cons (.loc rfl) (.cons (.closed rfl) (.cons (.closed rfl) (.cons (.aL 8) (.cons (.aL 9) (.cons (.closed rfl) (.cons (.aL 51) .nil))))))))))))))))
   (.cons e4 (.inst 1111 rfl) (.cons e7 (.dict (.cons (.aL 11) (.cons (.aL 18) (.cons (.aL 25) (.cons (.aL 32) (.cons (.aL 43) .nil)))))) .nil)))))
 have S':=S.choose (by rw[eO];rfl) (fun b q=>q.elim) (x1.trans x2) (xj.trans Ba) (m':=gT ns (.aL bg) T) (eO▸l2) (S.t.go (x1.trans x2) (fun q=>q)) fw (.cons (.closed rfl) (.cons (.loc rfl) (.cons (.loc rfl) (.cons (.fix rfl) (.cons (.closed (fN 3 T)) .nil)))));have gd:∀{j:Nat},dictAt S1 j=some []→j∈[2,5,6,8]→(∃e,c9 I2 fF (· ∈[2,5,6,8]) S1.length s2.heap (fF j)=some (dictOf [] e))∧fF j≠sysModules:=fun{j} d hz=>by
  obtain⟨es,ep,g,q⟩:=H2.rel.dictAt d;have hj:=lt (o9 d);cases q.inv
  exact⟨⟨ep,vd (z:=(· ∈[2,5,6,8])) H2.rel hz hj g⟩,ns' j hj⟩
 have al:=S'.H.rel.alter (j:=2) (o':=pM (.fy []) (.fy []) (.fy []) (.fy []) (.num 0) (.num 6) (.loc 4) (.aL (.ref (fF 9))) (.aL (.ref (fF 51)))) rfl fun ob _ q=>
  F9 (gd d2 (.head _)).1 (gd d5 (.tail _ (.head _))).1 (gd d6 (.tail _ (.tail _ (.head _)))).1 (gd d8 (.tail _ (.tail _ (.tail _ (.head _))))).1 (gd d2 (.head _)).2 (gd d5 (.tail _ (.head _))).2 (gd d6 (.tail _ (.tail _ (.head _)))).2 (gd d8 (.tail _ (.tail _ (.tail _ (.head _))))).2 q
 refine h _ _ s2 y (Yi (fF 11) (fF 18) (fF 25) (fF 32) (fF 43)) (.ref (fF 9)) (.ref (fF 51)) ⟨S'.W,⟨S'.H.fit,S'.H.base,al⟩,S'.l,S'.t⟩ (fun b o e=>fT b o (x2.le.i b o e)) ?_;induction r2.inv using iG.casesOn
 exact .loc (σ:=dY [0,1,3,4,7] fF) 3 (by decide)
end
noncomputable def q6(ns:List Int)(bg:Value)(T:Tree 3):ai:=[("script",.lst (ns.map V.num)),("due",.loc 8),("marks",.loc 5),("bag",.aL bg),("tree",Tree.v 3 T),("walker",.loc 1)]
noncomputable def Yk(ns:List Int)(bg:Value)(T:Tree 3):ai:=[("script",.lst (ns.map V.num)),("due",.loc 1),("marks",.loc 0),("bag",.aL bg),("tree",Tree.v 3 T),("walker",.loc 7)]
noncomputable def lW(q:Nat→Addr)(out main:Value):Ws:=⟨[],0,6,vP q,out,main⟩
noncomputable def st9(q:Nat→Addr)(out main:Value)(tb:ai):St:=[.list [] [],.list [] [],pM (.fy []) (.fy []) (.fy []) (.fy []) (.num 0) (.num 6) (.loc 4) (.aL out) (.aL main),.inst 1111 2,.dict (vP q),.dict tb,
 .dict [("world",.loc 3),("table",.loc 5),("catches",.tup []),("stack",.loc 8),("way",.none),("fiber",.none)],.inst 562 6,.list [] []]
noncomputable def nY(q:Nat→Addr)(out main:Value)(tb:ai):St:=[.list [] [],.list [] [],pM (.fy []) (.fy []) (.fy []) (.fy []) (.num 0) (.num 6) (.loc 4) (.aL out) (.aL main),.inst 1111 2,.dict (vP q),.dict tb]
noncomputable def FFk(w:Ws)(tb:ai):St:=[DE .none,.inst 562 0,AP w,.inst 1111 2,.list [] [],.list [] w.aa,.dict w.md,.dict tb,.list [] []]
theorem U8(w:Ws)(tb:ai):(FFk w tb).set 7 (.dict (zB 5))=FF (.list [] []) .none w [.list [] []]:=rfl
section
variable{st:St}
theorem U9(Sd:aU cx ev)(H:au cx k A I σ st s)(rf:aq I cx.P σ st.length f y)(ra:aG I cx.P σ st.length args ys)(g:iL (ev.c k f args st)=true)(hn:ja (ev.c k f args st))(e1:rW (ev.c k f args st)=v)(e2:rX (ev.c k f args st)=st')
  (h:∀I' af s' z,aM cx.P (fun _=>False) I σ st.length s.heap I' af st' s'.heap→bw s s'→au cx k A I' af st' s'→aq I' cx.P af st'.length v z→Q z s'):wpAny cx.M A (call y ys) Q E s:=by
 refine Sd.c H rf ra (MH (S:=cx.S) (pre:=cx.pre) g hn ?_).out;rw[e1,e2];intro I' af y s' x sm r;exact h I' af s' y x sm (H.go x) r
end
section
variable{K:Frag}
theorem fw9:nR 0 [6,7,2,3,8,0,4,5,1] (· ∈[]) σ (st9 q out main (jr f1 f2 f3 f4 f5 f6)) (FFk (lW q out main) (jr f1 f2 f3 f4 f5 f6)):=
 wZ rfl (.cons rfl (.dict (.cons (.loc rfl) (.cons (.loc rfl) (.cons (.fix rfl) (.cons (.loc rfl) (.cons (.fix rfl) (.cons (.fix rfl) .nil))))))) (.cons rfl (.inst 562 rfl)
  (.cons rfl (.dict (.cons (.fix rfl) (.cons (.fix rfl) (.cons (.fix rfl) (.cons (.fix rfl) (.cons (.fix rfl) (.cons (.fix rfl) (.cons (.fix rfl) (.cons (.fix rfl) (.cons (.loc rfl) (.cons (.fix rfl) (.cons (.fix rfl) (.cons (.fix rfl) (.cons (.fix rfl) (.cons (.fix rfl) (.cons (.fix rfl) .nil))))))))))))))))
  (.cons rfl (.inst 1111 rfl) (.cons rfl (.fix rfl) (.cons rfl (.fix rfl) (.cons rfl (.fix rfl) (.cons rfl (.fix rfl) (.cons rfl (.fix rfl) .nil)))))))))
theorem Va{ns:List Int}{T:Tree 3}{bg:Value}{rest:List Stmt}{q:Nat→Addr}(hk:L.k=k+100)(eO:L.fe=bP)(hX:∀b,aF L.env b→B.X b)(Oq:B.X L.T)
  (pL:gZ p w K L B false (FF (.list [] []) .none (lW q out main) [.list [] []]) (q6 ns bg T) rest)(S2:LS p w K L B true I2 fF (Dg q out main) (gT ns (.aL bg) T) s2)
  (x:aM w.params (fun b=>b=L.T) I2 fF (Dg q out main).length s2.heap I6 vS (nY q out main (jr f1 f2 f3 f4 f5 f6)) s6.heap)(sm:bw s2 s6)(H6:au (bL p w K) (k+100) L.A I6 vS (nY q out main (jr f1 f2 f3 f4 f5 f6)) s6)
  (l6:av w.params bP (gT ns (.aL bg) T) L.env I6 vS (nY q out main (jr f1 f2 f3 f4 f5 f6)).length s6.heap)(t6:mZ L false I6 vS (nY q out main (jr f1 f2 f3 f4 f5 f6)).length s6)(tb:o6 I6 (vS 0) f1 f2 f3 f4 f5 f6)
  (rc:aq I6 w.params vS (nY q out main (jr f1 f2 f3 f4 f5 f6)).length (.top 562) yc)(rs:aG I6 w.params vS (nY q out main (jr f1 f2 f3 f4 f5 f6)).length [.loc 3,.loc 5,.tup []] [yw,yt,yu]):
  wpAny (model p w) L.A (call yc [yw,yt,yu]) (fun y s₁=>wpAny (model p w) L.A (assign (F8 (fq 2)) L.env y) (fun _ s'=>wpAny (model p w) L.A (execs rest L.env) L.Q L.E s') L.E s₁) L.E s6:=by
 have Sd:=eX (mQ p w K) 60;have e1:rW ((cX (bL p w K) 60).c (k+100) (.top 562) [.loc 3,.loc 5,.tup []] (nY q out main (jr f1 f2 f3 f4 f5 f6)))=.loc 7:=⋯;have e2:rX ((cX (bL p w K) 60).c (k+100) (.top 562) [.loc 3,.loc 5,.tup []] (nY q out main (jr f1 f2 f3 f4 f5 f6)))=st9 q out main (jr f1 f2 f3 f4 f5 f6):=⋯;have e3:iL ((cX (bL p w K) 60).c (k+100) (.top 562) [.loc 3,.loc 5,.tup []] (nY q out main (jr f1 f2 f3 f4 f5 f6)))=true:=⋯;have e4:ja ((cX (bL p w K) 60).c (k+100) (.top 562) [.loc 3,.loc 5,.tup []] (nY q out main (jr f1 f2 f3 f4 f5 f6))):=gW ⋯;refine U9 (cx:=bL p w K) Sd H6 rc rs e3 e4 e1 e2 fun I7 σ7 s7 y x7 sm7 H7 r7=> ?_;have l7:=l6.ext x7;have t7:=t6.go x7 (fun q=>q);have tb7:o6 I7 (σ7 0) f1 f2 f3 f4 f5 f6:=by
  rw[x7.le.s 0 (by show 0<6;decide)];exact tb.mono x7.le.i
 have ep:iE bP (F8 (fq 2)) (.loc 7) (gT ns (.aL bg) T)=some (Yk ns bg T):=⋯;refine pA (cx:=bL p w K) H7 l7 r7 ep fun s8 x8 sm8 l8=> ?_;have t8:=t7.go x8 t7.o;have S8:=S2.choose (by rw[eO];rfl) (X:=B.X) (fun b hb=>hb) (((x.weaken (Y:=B.X) fun b hb=>hb▸Oq).trans (x7.weaken (Y:=B.X) fun _ q=>q.elim)).trans (x8.weaken (Y:=B.X) hX)) ((sm.trans sm7).trans sm8) (m':=q6 ns bg T) (eO▸l8) t8 fw9
  (.cons (.closed rfl) (.cons (.loc rfl) (.cons (.loc rfl) (.cons (.fix rfl) (.cons (.closed (fN 3 T)) (.cons (.loc rfl) .nil))))))
 have al:=S8.H.rel.alter (j:=7) (o':=.dict (zB 5)) rfl fun ob _ q=>o6.tell (l:=5) (tb7.mono fun b o e=>fT b o e) (by show 5<9;decide) q;rw[U8]at al;exact pL.out _ _ s8 S8.W ⟨S8.H.fit,S8.H.base,al⟩ S8.l S8.t
theorem Yl{ns:List Int}{T:Tree 3}(hk:L.k=k+100)(eO:L.fe=bP)(hX:∀b,aF L.env b→B.X b)(Oq:B.X L.T)(kb:KB B.I 1265 L.T)
  (pL:∀q out main,gZ p w K L B false (FF (.list [] []) .none (lW q out main) [.list [] []]) (q6 ns bg T) rest):gZ p w K L B true jf (gT ns (.aL bg) T) (fq 2::rest):=by
 refine⟨fun I σ s W H l ti=> ?_⟩;have S0:LS p w K L B true I σ jf (gT ns (.aL bg) T) s:=⟨W,H,l,ti⟩;have SG:L.fe.free=[]:=by rw[eO];rfl
 have Sd:=eX (mQ p w K) 60;rw[ZE];refine wpAny_execs_cons (Ga (cx:=bL p w K) l (by rw[eO];kernel_rfl) (by rw[eO];kernel_rfl) ⋯ ?_);have H0:au (bL p w K) (k+100) L.A I σ jf s:=hk▸H;have l0:av w.params bP (gT ns (.aL bg) T) L.env I σ jf.length s.heap:=eO▸l;refine Call_ (ku (cx:=bL p w K) (v:=.top 562) (st':=jf) Sd H0 l0 ⋯ (gW ⋯) ⋯ ⋯ fun I1 jq s1 yc x1 xj H1 l1 r1=> ?_);refine vv (cx:=bL p w K) (f:=.top 562) ⋯ ⋯ H1 r1 ?_;refine args_cons ?_ (eW _ _ ⋯);refine U7 hk eO S0 x1 xj (eO▸l1) fun I2 fF s2 yw q out main S2 i2 rw2=> ?_;have H2:au (bL p w K) (k+100) L.A I2 fF (Dg q out main) s2:=hk▸S2.H;have l2:av w.params bP (gT ns (.aL bg) T) L.env I2 fF (Dg q out main).length s2.heap:=eO▸S2.l;refine args_cons ?_ (eW _ _ ⋯);refine Call_ (ku (cx:=bL p w K) (v:=.top 1266) (st':=Dg q out main) Sd H2 l2 ⋯ (gW ⋯) ⋯ ⋯ fun I3 j9 s3 yk x3 Gb H3 l3 r3=> ?_);refine vv (cx:=bL p w K) (f:=.top 1266) ⋯ ⋯ H3 r3 ?_;have hka:sF Ol=[zI (sF Ol) 0]:=⋯;rw[hka];refine args_cons ?_ (eW _ _ ⋯);refine ku (cx:=bL p w K) (v:=.loc 0) (st':=Dg q out main) Sd H3 l3 ⋯ (gW ⋯) ⋯ ⋯ fun I4 σ4 s4 ym x4 Ot H4 l4 r4=> ?_;rw[show yk=_ from r3.inv,(tX r4).1];refine args_nil ⟨fun b o e=>H4.rel.sub b o (x4.le.i b o e), ?_⟩;have x24:=x3.trans x4;have t4:=S2.t.go x24 (fun q=>q);obtain⟨ps,tg,tp⟩:=t4.t;have tp:=tp rfl;subst tp;refine KG (k:=k+79) (T:=L.T) (l:=0) H4 rfl (kb.mono fun b o e=>x4.le.i b o (x3.le.i b o (S2.W.i b o e))) t4.i t4.sg tg fun I5 F7 s5 yt f1 f2 f3 f4 f5 f6 x5 SH tb5 r5 ht5=> ?_;have H5:au (bL p w K) (k+100) L.A I5 F7 (nY q out main (jr f1 f2 f3 f4 f5 f6)) s5:=⟨H4.fit,H4.base.mono x5.le.i,x5.rel⟩;have l5:av w.params bP (gT ns (.aL bg) T) L.env I5 F7 (nY q out main (jr f1 f2 f3 f4 f5 f6)).length s5.heap:=l4.abf rfl x5 fun b hb e=>t4.o (e▸hb);have t5:mZ L false I5 F7 (nY q out main (jr f1 f2 f3 f4 f5 f6)).length s5:=by
  obtain⟨ps,e5⟩:=ht5;refine⟨?_,fun j hj=> ?_,t4.o,ps,e5,fun q=>by exact ft q⟩
  ·induction q:I5 L.T using qe with
   |none=>rfl
   |some o=>
    rcases x5.fresh _ o q with q|q
    ·rw[t4.i]at q;exact nn q
    ·rw[tg]at q;cases q
  ·by_cases hh:j<(Dg q out main).length
   ·rw[x5.le.s j hh];exact t4.sg j hh
   ·intro z;have:=x5.new j (qA hh) hj;rw[z,tg]at this;cases this
 refine args_cons ?_ (eW _ _ ⋯);have g1:iL ((cX (bL p w K) 60).e (k+100) bP (gT ns (.aL bg) T) (nY q out main (jr f1 f2 f3 f4 f5 f6)) Om)=true:=⋯;have g2:ja ((cX (bL p w K) 60).e (k+100) bP (gT ns (.aL bg) T) (nY q out main (jr f1 f2 f3 f4 f5 f6)) Om):=gW ⋯;have g3:rW ((cX (bL p w K) 60).e (k+100) bP (gT ns (.aL bg) T) (nY q out main (jr f1 f2 f3 f4 f5 f6)) Om)=.tup []:=⋯;have g4:rX ((cX (bL p w K) 60).e (k+100) bP (gT ns (.aL bg) T) (nY q out main (jr f1 f2 f3 f4 f5 f6)) Om)=nY q out main (jr f1 f2 f3 f4 f5 f6):=⋯;refine ku (cx:=bL p w K) Sd H5 l5 g1 g2 g3 g4 fun I6 vS s6 yu x6 Og H6 l6 r6=> ?_;refine args_nil ⟨fun b o e=>H6.rel.sub b o (x6.le.i b o (x5.le.i b o (x4.le.i b o (x3.le.i b o (i2 b o e))))), ?_⟩;have x26:=((x24.weaken (Y:=fun b=>b=L.T) fun _ q=>q.elim).trans x5).trans (x6.weaken (Y:=fun b=>b=L.T) fun _ q=>q.elim);have rc:aq I6 w.params vS (nY q out main (jr f1 f2 f3 f4 f5 f6)).length (.top 562) yc:=by cases r1.inv;exact .top _
 have tb6:o6 I6 (vS 0) f1 f2 f3 f4 f5 f6:=by
  rw[x6.le.s 0 (by show 0<6;decide)];exact tb5.mono x6.le.i
 exact Va hk eO hX Oq (pL q out main) S2 x26 (((Gb.trans Ot).trans SH).trans Og) H6 l6 (t5.go x6 fun q=>q) tb6 rc (.cons (rw2.mono x26.le) (.cons (r5.mono x6.le) (.cons r6 .nil)))
end
theorem fJ.Vb(w:fJ 0 B I σ n s)(hX:∀b,X b→B.X b)
  (x:aM P X I σ n s.heap dj bH bW br.heap)(sm:bw s br)(f:nR c' aD z bH bW st'):fJ 0 B (c9 dj bH z bW.length br.heap) (dY aD bH) st'.length br:=by
 have dead:∀{b:Addr},s.heap.get? b=none→B.s.heap.get? b=none:=fun{b} e=>by
  induction q:B.s.heap.get? b using qe with
  |none=>rfl
  |some o=>obtain⟨o',e'⟩:=w.alive b o q;rw[e]at e';exact nn e'
 have FG:∀k,k<bW.length→B.X (bH k)∨B.s.heap.get? (bH k)=none:=fun k h2=>by
  by_cases q:k<n
  ·rw[x.le.s k q];exact w.own k (qm _) q
  ·exact .inr (dead (x.new k (qA q) h2))
 refine⟨fun b o e=>fT _ _ (x.le.i b o (w.i b o e)),fun k hk=>absurd hk (qp _),fun b o e=> ?_,fun j h1 h2=> ?_,fun b o e h1 h2=> ?_,fun b o e=> ?_,w.same.trans sm⟩
 ·rcases gR e with q|⟨_,_,k,hz,hk,e'⟩
  ·rcases x.fresh b o q with q|q
   ·exact w.fresh b o q
   ·exact .inr (.inl (dead q))
  ·rw[←e'];rcases FG k hk with q|q
   ·exact .inr (.inr q)
   ·exact .inr (.inl q)
 ·have hj:j<aD.length:=by rw[←f.len];exact h2
  have ej:aD[j]? =some aD[j]:=qw hj;rw[eF ej];exact FG _ (f.lt j _ ej).1
 ·refine x.keep b o (w.keep b o e h1 h2) (fun q=>h1 (hX b q)) fun k hk q=> ?_;rcases w.own k (qm _) hk with q'|q'
  ·rw[q]at q';exact h1 q'
  ·rw[q,e]at q';exact ns q'
 ·obtain⟨o',e'⟩:=w.alive b o e;exact x.alive b o' e'
section
variable{K:Frag}
theorem LS.Vc{c:Nat}{f:Bool}{I dj:IM}{σ bH:Nat→Addr}{st bW st':St}(S:LS p w K L B f I σ st m s)(hf:L.fe.free=[])(hX:∀b,X b→B.X b)(x:aM w.params X I σ st.length s.heap dj bH bW br.heap)(sm:bw s br)
  (dX:av w.params L.fe m₂ L.env dj bH bW.length br.heap)(QH:mZ L QI dj bH bW.length br)(fw:nR c aD z bH bW st')(fm:mF c aD z bH bW false m₂ m'):LS p w K L B QI (c9 dj bH z bW.length br.heap) (dY aD bH) st' m' br:=by
 have cP:au (bL p w K) L.k L.A dj bH bW br:=S.H.go x;refine⟨S.W.Vb hX x sm fw,⟨S.H.fit,cP.base.mono fT,cP.rel.choose fw⟩, ?_,QH.choose fw⟩;rw[fw.len];exact dX.vq cP.rel fm hf fw.vc fun j k e=>(fw.lt j k e).1
theorem QJ{f:Bool}{st:St}{m:ai}{x:Stmt}{rest:List Stmt}(Sd:aU (kL p w S aI as K) ev)(hX:∀b,aF L.env b→B.X b)(hf:L.fe.free=[])
  (g:Gd S aI (iA (kL p w S aI as K) ev L.k L.fe m st x) fun q=>q.1.1=.next∧∀σ,(∀k,k<q.2.length→σ k≠sysModules)→∃aD z st' m',nR c aD z σ q.2 st'∧mF c aD z σ q.2 false q.1.2 m'∧gZ p w K L B f st' m' rest):
  gZ p w K L B f st m (x::rest):=by
 refine⟨fun I σ s W H l ti=> ?_⟩;have S0:LS p w K L B f I σ st m s:=⟨W,H,l,ti⟩;have H':au (kL p w S aI as K) L.k L.A I σ st s:=H.cx;refine wpAny_execs_cons (mW Sd H' l (Good.mono (fun q gq dj bH f br bQ cK ro=> ?_) g.out));obtain⟨⟨out,m₂⟩,bW⟩:=q;obtain⟨ro,dX⟩:=ro;obtain⟨e1,gq⟩:=gq;cases e1
 obtain rfl:=ro;have cP:au (kL p w S aI as K) L.k L.A dj bH bW br:=H'.go bQ;obtain⟨aD,z,st',m',fw,fm,at'⟩:=gq bH fun k hk q=>by
  obtain⟨o,ho⟩:=cP.base.tK;have:=cP.rel.out k hk;rw[q,ho]at this;exact ns this
 have S2:=S0.Vc hf hX bQ cK dX (ti.go bQ ti.o) fw fm;exact at'.out _ _ br S2.W S2.H S2.l S2.t
end
theorem Vd:∀T:Tree 3,∃kb pb,Tree.node 3 T=aj kb pb
 |.leaf l=>by induction l using aH.casesOn<;>exact⟨_,_,rfl⟩
 |.jR _ _ _=>⟨_,_,rfl⟩
 |.jB _ _ _=>⟨_,_,rfl⟩
 |.j7 _ _=>⟨_,_,rfl⟩
 |.jC _ _=>⟨_,_,rfl⟩
noncomputable def o7(ns:List Int)(bg:Value)(T:Tree 3):ai:=[("script",.lst (ns.map V.num)),("due",.loc 11),("marks",.loc 5),("bag",.aL bg),("tree",Tree.v 3 T),("walker",.loc 1)]
noncomputable def stG(kb:Str)(pb:V)(w0:Ws):St:=FF (.list [] [.loc 10]) .none w0 [.list [] [],bx kb (aj kb pb) (.int 0) (.loc 11),.inst 463 9,.list [] []]
noncomputable def jV(kb:Str)(pb:V)(w0:Ws):St:=FF (.list [] [.loc 9]) .none w0 (iB kb (aj kb pb)++[.list [] []])
theorem Io{st:St}{kb:Str}{pb:V}{l l':Nat}(h:aD[l']? =some l):mG 8 aD z σ st (bx kb (aj kb pb) (.int 0) (.loc l)) (bx kb (aj kb pb) (.int 0) (.loc l')):=
 .dict (.cons (.closed rfl) (.cons (.fix rfl) (.cons (.closed rfl) (.cons (.closed rfl) (.cons (.closed rfl) (.cons (.loc h) (.cons (.closed rfl) .nil)))))))
theorem abg(hm:bB w0.aa=true)(hd:dF w0.md=true):nR 8 [0,1,2,3,4,5,6,7,9,10,11,8] (· ∈[]) σ (stG kb pb w0) (jV kb pb w0):=
 nS (ks:=[9,10,11,8]) rfl (.fix rfl) (.cons (.loc rfl) .nil) hm (fh hd) (.cons rfl (Io rfl) (.cons rfl (.inst 463 rfl) (.cons rfl (.fix rfl) (.cons rfl (.fix rfl) .nil))))
section
variable{K:Frag}
theorem Ym{ns:List Int}{T:Tree 3}{bg:Value}(ok:Tree.ok 3 T)(hk:L.k=k+100)(eO:L.fe=bP)(hX:∀b,aF L.env b→B.X b)
  (pL:∀kb pb,Tree.node 3 T=aj kb pb→gZ p w K L B false (jV kb pb (lW q out main)) (o7 ns bg T) rest):gZ p w K L B false (FF (.list [] []) .none (lW q out main) [.list [] []]) (q6 ns bg T) (fq 3::rest):=by
 obtain⟨kb,pb,e⟩:=Vd T;refine QJ (c:=8) (S:=pU 7) (as:=[1175]) (ev:=cX (Sh p w K 7) 60) (eX (Zl p w K 7) 60) hX (by rw[eO];rfl) ?_;rw[hk,eO];refine mO (.tree 3 T) (k+100) (show 6<7 by decide) (qg 11 (k+89)) ok ?_;rw[show gw.node (.tree 3 T)=_ from e];refine kK (a:=((.next,q6 ns bg T),stG kb pb (lW q out main))) ⋯ (nd (p:=1≤500∧True) ⋯ ⟨by decide,trivial⟩) ?_;exact⟨rfl,fun σ _=>⟨_,_,_,o7 ns bg T,abg ⋯ ⋯,.cons (.closed rfl) (.cons (.loc rfl) (.cons (.fix rfl) (.cons (.fix rfl) (.cons (.closed (fN 3 T)) (.cons (.fix rfl) .nil))))),pL kb pb e⟩⟩
end
noncomputable def xm(i:Nat):Stmt:=match di (jH sQ) i with
 |some s=>s
 |none=>.Pass default
noncomputable def abh:Pos:=match xm 0 with
 |.While _ _ _ p=>p
 |_=>default
theorem QK:jH sQ=[.While uA x9 [] abh,xm 1]:=⋯
theorem fJ.step(w:fJ c B I σ n s)(hc:c≤n)(hX:∀b,X b→B.X b)
  (x:aM P X I σ n s.heap dj bH bW br.heap)(sm:bw s br):fJ c B dj bH bW.length br:=by
 have dead:∀{b:Addr},s.heap.get? b=none→B.s.heap.get? b=none:=fun{b} e=>by
  induction q:B.s.heap.get? b using qe with
  |none=>rfl
  |some o=>obtain⟨o',e'⟩:=w.alive b o q;rw[e]at e';exact nn e'
 refine⟨fun b o e=>x.le.i b o (w.i b o e),fun k hk=> ?_,fun b o e=> ?_,fun j h1 h2=> ?_,fun b o e h1 h2=> ?_,fun b o e=> ?_,w.same.trans sm⟩
 ·rw[x.le.s k (by exact qy ‹_› ‹_›)];exact w.sg k hk
 ·rcases x.fresh b o e with q|q
  ·exact w.fresh b o q
  ·exact .inr (.inl (dead q))
 ·by_cases q:j<n
  ·rw[x.le.s j q];exact w.own j h1 q
  ·exact .inr (dead (x.new j (qA q) h2))
 ·refine x.keep b o (w.keep b o e h1 h2) (fun q=>h1 (hX b q)) fun k hk q=> ?_;rcases qR k c with g|g
  ·rw[w.sg k g]at q;exact h2 k g q
  ·rcases w.own k g hk with q'|q'
   ·rw[q]at q';exact h1 q'
   ·rw[q,e]at q';exact ns q'
 ·obtain⟨o',e'⟩:=w.alive b o e;exact x.alive b o' e'
theorem fJ.back(w:fJ c ⟨X,I0,jI,s1⟩ I σ n s)(kp:∀b o,s0.heap.get? b=some o→s1.heap.get? b=some o)(sm:bw s0 s1):fJ c ⟨X,I0,jI,s0⟩ I σ n s:=by
 have dead:∀{b:Addr},s1.heap.get? b=none→s0.heap.get? b=none:=fun{b} e=>by
  induction q:s0.heap.get? b using qe with
  |none=>rfl
  |some o=>rw[kp b o q]at e;exact ns e
 exact⟨w.i,w.sg,fun b o e=>(w.fresh b o e).imp id fun q=>q.imp dead id,fun k h1 h2=>(w.own k h1 h2).imp id dead,fun b o e h1 h2=>w.keep b o (kp b o e) h1 h2,fun b o e=>w.alive b o (kp b o e),sm.trans w.same⟩
theorem Ge(h:oZ d u):∃a b,u=aC a b:=by
 induction d using bu.casesOn with
 |val x=>exact⟨_,_,h⟩
 |raise z=>obtain⟨e,_,_,h⟩:=h;exact⟨_,_,h⟩
section
variable{K:Frag}
set_option backward.match.sparseCases true in
theorem QL(ok:Tree.ok 3 T)(e:Tree.node 3 T=aj kb pb)(wok:aW (cB 3) (Tree.rd 3 T).1.length w0)(H:au (bL p w K) (k+41) A I σ (FF (.list [] [.loc 9]) .none w0 (iB kb (aj kb pb))) s)
  (h:∀X I' af s' u w' y,(∀b,X b→s.heap.get? b=none∨∃j,8≤j∧j<11∧σ j=b)→fJ 8 ⟨X,I,σ,s⟩ I' af 8 s'→cG w.params I' af (FF (.list [] []) u w' []) s'.heap→bO (Tree.rd 3 T) (cB 3) w0 u w'→aq I' w.params af 8 u y→Q y s'):
  wpAny (model p w) A (call (.ref 559) [.ref (σ 1)]) Q E s:=by
 obtain⟨⟨o,h1,h2,h3⟩,hc,gl,bl,cl,df⟩:=H.base.fns 559 sQ [] (q9 (a:=559) ⋯);have H1:au (bL p w K) (k+40+1) A I σ (FF (.list [] [.loc 9]) .none w0 (iB kb (aj kb pb))) s:=H;refine zH (E:=E) (m:=cH) (body:=jH sQ) H1 h1 h3 gl bl hc cl ⋯ (.cons (aq.loc 1 (by show 1<11;decide)) .nil) ⋯ ⋯ ⋯ fun env s₁ he rO kp sm hf lo E'=> ?_;rw[QK];refine wpAny_execs_cons ?_
 let R:SP:=fun br=>wpAny (model p w) (A.deeper env) (execs [xm 1] env) (fun f s'=>Q (match f with|.ret v=>v|_=>.none) s') E' br
 let L:Lp:=⟨k+40,A.deeper env,oY,env,cH,uA,x9,R,fun _ _=>False⟩
 let X:Addr→Prop:=fun b=>s.heap.get? b=none∨∃j,8≤j∧j<11∧σ j=b
 have rl:bK L k:=⟨⟨rfl,rfl⟩,rfl,rfl,rfl⟩;have hX:∀b,aF L.env b→X b:=fun b hb=>.inl (rO b hb);have start:qY (az p w K 20) L (1+cB 3) s₁:=by
  obtain⟨Yn,pb',e',ev⟩:=XJ (p:=p) (wo:=w) (K:=K) (n:=20) rl (by decide) 3 T ok;have ee:aj Yn pb'=aj kb pb:=e'.symm.trans e;have ek:Yn=kb:=by
   unfold aj at ee;injection ee with _ ee;injection ee with ee _;injection ee with _ ee;injection ee
  rw[ee,ek]at ev;have B0:Bs:=⟨X,I,σ,s₁⟩;have H2:au (az p w K 20) L.k L.A I σ (FF (.list [] [.loc 9]) .none w0 (iB kb (aj kb pb))) s₁:=⟨hf,H.base.cx,(aM.grow H.rel kp).rel⟩;have ex:=aM.grow H.rel kp;refine ev w0 wok ⟨X,I,σ,s₁⟩ [] 1 hX (by decide) (fun u w' en=> ?_) I σ s₁ (fJ.refl 8 ⟨X,I,σ,s₁⟩ _ fun j h1 h2=>.inr ⟨j,h1,h2,rfl⟩) H2 lo;intro I' af s' W' H' l';have Sd:=eX (xY p w K 20) 60;have Sd0:=eX (mQ p w K) 60;have t1:Gd (dS 20) aI ((cX (az p w K 20) 60).t (k+40) oY cH (FF (.list [] []) u w' []) uA) (EB (az p w K 20) I' af (FF (.list [] []) u w' []) s' (fun b br=>(b=true→wpAny (az p w K 20).M L.A (execs L.body L.env) (fun f jP=>f=.next∧qY (az p w K 20) L 0 jP) L.E br)∧(b=false→L.R br))):=by
   refine kK (a:=(false,FF (.list [] []) u w' [])) ⋯ (nd (p:=1≤500∧True) ⋯ ⟨by decide,trivial⟩) ?_;obtain⟨ua,ub,rfl⟩:=Ge en.way;intro I2 fF b s2 x2 Ba hb;subst hb;refine⟨(fun q=>by exact ft q),fun _=> ?_⟩;have l2:=l'.ext x2;have Hz:au (bL p w K) (k+40) (A.deeper env) I2 fF (FF (.list [] []) (aC ua ub) w' []) s2:=(H'.go x2).cx;have e1:yQ (iA (bL p w K) (cX (bL p w K) 60) (k+40) oY cH (FF (.list [] []) (aC ua ub) w' []) (xm 1))=.ret (aC ua ub):=⋯;have e2:sY (iA (bL p w K) (cX (bL p w K) 60) (k+40) oY cH (FF (.list [] []) (aC ua ub) w' []) (xm 1))=cH:=⋯;have e3:lS (iA (bL p w K) (cX (bL p w K) 60) (k+40) oY cH (FF (.list [] []) (aC ua ub) w' []) (xm 1))=FF (.list [] []) (aC ua ub) w' []:=⋯;have e4:iL (iA (bL p w K) (cX (bL p w K) 60) (k+40) oY cH (FF (.list [] []) (aC ua ub) w' []) (xm 1))=true:=⋯;have e5:ja (iA (bL p w K) (cX (bL p w K) 60) (k+40) oY cH (FF (.list [] []) (aC ua ub) w' []) (xm 1)):=gW ⋯;refine wpAny_execs_cons (mW Sd0 Hz l2 (wY (S:=(bL p w K).S) (pre:=(bL p w K).pre) e4 e5 ?_).out);rw[e1,e2,e3];intro I3 j9 f s3 x3 Gb ro;obtain⟨ro,l3⟩:=ro;obtain⟨_,rfl,hy⟩:=ro;have W3:=(W'.step (qf _) (fun b (q:False)=>q.elim) x2 Ba).step (qf _) hX x3 Gb;exact h X I3 j9 s3 (aC ua ub) w' _ (fun b q=>q) (W3.back kp sm) x3.rel en hy
  exact Sd.t H' l' t1.out
 refine wpAny_While (codeAny_whileLoop (fun n s'=>qY (az p w K 20) L n s') ?_ (1+cB 3) start);intro n s' hr;induction n using qk with
 |zero=>exact hr.elim
 |succ n=>
  refine wpAny_mono hr (fun b br hb=> ?_) fun _ _ x=>x.elim;induction b using qd with
  |true=>exact wpAny_mono (hb.1 rfl) (fun f jP hf=>by obtain⟨rfl,q⟩:=hf;exact⟨n,qE _,q⟩) fun _ _ x=>x.elim
  |false=>exact wpAny_execs_nil (hb.2 rfl)
end
section
variable{st:St}
theorem Ve(Sd:aU cx ev)(H:au cx k A I σ st s)(l:av cx.P fe m env I σ st.length s.heap)(hn:ue o=true)(hl:Nat.beq jy.endLine pos.line=true)
  (g:iL (ev.e k fe m st o)=true)(nn:ja (ev.e k fe m st o))(e1:rW (ev.e k fe m st o)=v)(e2:rX (ev.e k fe m st o)=st')(hf:oA cx st' v name=some (f,us))(hc:oF cx f=true)
  (h:∀I' af s' z zs,aM cx.P (fun _=>False) I σ st.length s.heap I' af st' s'.heap→bw s s'→au cx k A I' af st' s'→av cx.P fe m env I' af st'.length s'.heap→aq I' cx.P af st'.length f z→aG I' cx.P af st'.length us zs→wpAny cx.M A (call z zs) Q E s'):
  wpAny cx.M A (eval (.Call (.Attribute o name jy) [] [] pos) env) Q E s:=by
 have hp:g8 []=true:=rfl;have KD:methodCallForm (([]:List Expr).length+([]:List Keyword).length) (backTo pos (starEach [] env)) (backToKw pos (keywordEach [] env))=true:=rfl;have sD:methodCallPos true o env jy pos=pure pos:=by
  unfold methodCallPos;have:(jy.endLine==pos.line)=true:=by rw[qt hl];exact beq_self_eq_true _
  simp[this]
 rw[arm_eval_Call,p6 hn];refine wpAny_bind (ku Sd H l g nn e1 e2 fun bG aZ s₁ iX aV aO aY bD b9=>wpAny_bind (wpAny_standAt ?_));unfold methodCall;rw[KD];refine wpAny_bind (wpAny_holding (zc aY b9 hf fun z zs rz Ex t=> ?_));refine wpAny_bind (wpAny_of_eq sD ?_);have cP:au cx k A bG aZ st' {s₁ with toks:=t}:=⟨aY.fit,aY.base,aY.rel⟩;refine callWith_of (P:=fun h=>∀b o,bG b=some o→h.get? b=some o) (by rw[oQ hp];rfl) (Im aY.base rz hc) (oR hp (args_nil ⟨cP.rel.sub, ?_⟩));rw[List.append_nil];exact h bG aZ {s₁ with toks:=t} z zs aV aO cP bD rz Ex
end
theorem cG.ZG{σ af:Nat→Addr}{st:St}{h:Heap}(r:cG P I σ st h)(e:∀k,k<st.length→af k=σ k):cG P I af st h:=by
 refine⟨r.sub,fun j o q=> ?_,fun i j hi hj q=>r.inj i j hi hj (by rw[←e i hi,←e j hj];exact q),fun j hj=>by rw[e j hj];exact r.out j hj⟩;obtain⟨ob,g,gB⟩:=r.cells j o q;exact⟨ob,by rw[e j (List.getElem?_eq_some_iff.mp q).1];exact g,gB.mono ⟨fun _ _ e=>e,e,qf _⟩⟩
theorem Gf(hz:∀k,¬z k):c9 I σ z n h=I:=by
 funext b
 induction q:c9 I σ z n h b using qe with
 |none=>
  induction q':I b using qe with
  |none=>rfl
  |some o=>rw[fT b o q']at q;exact ns q
 |some o=>
  rcases gR q with q|⟨_,_,k,z,_⟩
  ·exact q.symm
  ·exact(hz _ z).elim
theorem abi(hm:bB w0.aa=true)(hd:dF w0.md=true):nR 8 [0,1,2,3,4,5,6,7,8,9,10] (· ∈[]) σ (jV kb pb w0) (FF (.list [] [.loc 9]) .none w0 (iB kb (aj kb pb))):=
 nS (ks:=[8,9,10]) rfl (.fix rfl) (.cons (.loc rfl) .nil) hm (fh hd) (.cons rfl (Io rfl) (.cons rfl (.inst 463 rfl) (.cons rfl (.fix rfl) .nil)))
theorem QM(hm:bB w0.aa=true)(hd:dF w0.md=true)(r:cG P I σ (jV kb pb w0) h):cG P I σ (FF (.list [] [.loc 9]) .none w0 (iB kb (aj kb pb))) h:=by
 have:=r.choose (abi (σ:=σ) hm hd);rw[Gf fun k h=>nomatch h]at this;refine this.ZG fun k hk=> ?_;have hk:k<11:=hk
 match k,hk with
 |0,_|1,_|2,_|3,_|4,_|5,_|6,_|7,_|8,_|9,_|10,_=>rfl
 |k+11,h=>exact absurd h (by simp)
noncomputable def kH:List Nat:=[0,1,2,3,4,5,6,7,11]
theorem zJ(h:k<8):kH[k]? =some k:=by
 match k,h with
 |0,_|1,_|2,_|3,_|4,_|5,_|6,_|7,_=>rfl
 |k+8,h=>exact absurd h (by simp)
theorem q7(h:j<9):(j<8∧kH[j]? =some j)∨(j=8∧kH[j]? =some 11):=by
 rcases qR j 8 with q|q
 ·exact .inl ⟨q,zJ q⟩
 ·have:j=8:=by lia
  subst this;exact .inr ⟨rfl,rfl⟩
section
variable{K:Frag}
theorem LS.ran(S:LS p w K L B f I σ (jV kb pb w0) m s)(hf:L.fe.free=[])(SI:∀b,X b→s.heap.get? b=none∨∃j,8≤j∧j<11∧σ j=b)
  (W3:fJ 8 ⟨X,I,σ,s⟩ I3 j9 8 s3)(rel:cG w.params I3 j9 (FF (.list [] []) u w' []) s3.heap)(fm:mF 8 kH (fun _=>False) σ (jV kb pb w0) false m m'):
  LS p w K L B f I3 (dY kH σ) (FF (.list [] []) u w' [.list [] []]) m' s3:=by
 have ln:(jV kb pb w0).length=12:=rfl;have r:=S.H.rel;have Yo:∀b o,s.heap.get? b=some o→(∀j,8≤j→j<11→σ j≠b)→¬X b:=fun b o e hn q=>by
  rcases SI b q with z|⟨j,h1,h2,h3⟩
  ·rw[e]at z;exact ns z
  ·exact hn j h1 h2 h3
 have kept:∀b o,s.heap.get? b=some o→(∀j,j<11→σ j≠b)→s3.heap.get? b=some o:=fun b o e hn=>W3.keep b o e (Yo b o e fun j _ h2=>hn j h2) fun k hk=>hn k (by exact vV ‹_›);have KH:∀b,I b=none→(∃o,s.heap.get? b=some o)→(∀j,8≤j→j<11→σ j≠b)→I3 b=none:=fun b h1 ⟨o,h2⟩ h3=>by
  induction q:I3 b using qe with
  |none=>rfl
  |some o'=>
   rcases W3.fresh b o' q with z|z|z
   ·have z:I b=some o':=z;rw[h1]at z;exact nn z
   ·have z:s.heap.get? b=none:=z;rw[h2]at z;exact ns z
   ·exact absurd z (Yo b o h2 h3)
 have sg8:∀k,k<8→dY kH σ k=σ k:=fun k hk=>eF (zJ hk);have Yp:∀k,k<8→dY kH σ k=j9 k:=fun k hk=>(sg8 k hk).trans (W3.sg k hk).symm;have s11:dY kH σ 8=σ 11:=rfl;have val:∀j,j<9→∃k,kH[j]? =some k∧k<12∧dY kH σ j=σ k:=fun j hj=>by
  rcases q7 hj with⟨a,b⟩|⟨a,b⟩
  ·exact⟨j,b,by exact vV ‹_›,eF b⟩
  ·exact⟨11,b,by decide,eF b⟩
 have yW:∃ob,s.heap.get? (σ 11)=some ob∧dw I w.params σ 12 (.list [] []) ob:=r.cells 11 _ rfl;obtain⟨ob,gd,od⟩:=yW;have gd3:s3.heap.get? (σ 11)=some ob:=kept _ _ gd fun j hj q=>by
  have:=r.inj j 11 (by rw[ln];exact Nat.lt_succ_of_lt ‹_›) (by rw[ln];decide) q;lia
 have abj:cG w.params I3 (dY kH σ) (FF (.list [] []) u w' [.list [] []]) s3.heap:=by
  refine⟨rel.sub,fun j o e=> ?_,fun i j hi hj e=> ?_,fun j hj=> ?_⟩
  ·have hj:j<9:=(List.getElem?_eq_some_iff.mp e).1;rcases q7 hj with⟨a,b⟩|⟨a,b⟩
   ·have e':(FF (.list [] []) u w' [])[j]? =some o:=by
     have:=e;exact ML (P:=fun j=>(FF (.list [] []) u w' [.list [] []])[j]? =some o→(FF (.list [] []) u w' [])[j]? =some o) a id id id id id id id id this
    obtain⟨Wy,g,gB⟩:=rel.cells j o e';exact⟨Wy,by rw[Yp j a];exact g,gB.mono ⟨fun _ _ e=>e,fun k hk=>Yp k hk,by show 8≤9;decide⟩⟩
   ·subst a;obtain rfl:=qc e;refine⟨ob,by rw[s11];exact gd3, ?_⟩;replace od:=od.inv;induction od using jZ.casesOn with|mk ep hp rr=>rw[show _=[]from rr.inv]at*;exact .list ep hp .nil
  ·obtain⟨a,ea,ha,qa⟩:=val i hi;obtain⟨b,eb,hb,qb⟩:=val j hj;have:=r.inj a b (by rw[ln];exact ha) (by rw[ln];exact hb) (by rw[←qa,←qb];exact e);subst this;exact U6 (by decide) i j a ea eb
  ·have hj:j<9:=hj;rcases q7 hj with⟨a,b⟩|⟨a,b⟩
   ·rw[Yp j a];exact rel.out j a
   ·subst a;rw[s11];exact KH _ (r.out 11 (by rw[ln];decide)) ⟨ob,gd⟩ fun j h1 h2 q=>by
     have:=r.inj j 11 (by rw[ln];lia) (by rw[ln];decide) q;lia
 have fix:∀k,k<8→kH[k]? =some k:=fun k hk=>zJ hk;have ltD:∀(j k:Nat),kH[j]? =some k→k<(jV kb pb w0).length:=fun j k e=>by
  have hj:j<9:=(List.getElem?_eq_some_iff.mp e).1;rw[ln];rcases q7 hj with⟨a,b⟩|⟨a,b⟩
  ·rw[b]at e;obtain rfl:=qc e;exact vV ‹_›
  ·rw[b]at e;obtain rfl:=qc e;decide
 have l1:=S.l.vq r fm hf fix ltD;rw[Gf fun _ h=>h]at l1;have l4:av w.params L.fe m' L.env I3 (dY kH σ) 9 s3.heap:=by
  refine l1.kept hf (fun b o e=>W3.i b o e) (fun b o hb e=>kept b o e fun j hj=>(S.l.apart b hb).2 j (by rw[ln];lia)) fun b hb=> ?_;refine KH b (S.l.apart b hb).1 ?_ fun j _ h2=>(S.l.apart b hb).2 j (by rw[ln];lia);rcases hb with rfl|⟨y,hy,hc⟩
  ·obtain⟨mm,⟨o,_,_,ho,_⟩,_⟩:=S.l.ns;exact⟨o,ho⟩
  ·obtain⟨c,v,h1,o,ho,_⟩:=S.l.there y hy;rw[hc]at h1;obtain rfl:=qc h1;exact⟨o,ho⟩
 have t4:mZ L f I3 (dY kH σ) 9 s3:=by
  obtain⟨ps,tg,tp⟩:=S.t.t;refine⟨KH _ S.t.i ⟨_,tg⟩ fun j _ h2=>S.t.sg j (by rw[ln];lia),fun j hj=> ?_,S.t.o,ps,kept _ _ tg fun j hj=>S.t.sg j (by rw[ln];lia),tp⟩;obtain⟨a,_,ha,qa⟩:=val j hj;rw[qa];exact S.t.sg a (by rw[ln];exact ha)
 have SJ:∀{b:Addr},s.heap.get? b=none→B.s.heap.get? b=none:=fun{b} e=>by
  induction q:B.s.heap.get? b using qe with
  |none=>rfl
  |some o=>obtain⟨o',e'⟩:=S.W.alive b o q;rw[e]at e';exact nn e'
 have W4:fJ 0 B I3 (dY kH σ) 9 s3:=by
  refine⟨fun b o e=>W3.i b o (S.W.i b o e),fun k hk=>absurd hk (qp _),fun b o e=> ?_,fun j _ hj=> ?_,fun b o e h1 _=> ?_,fun b o e=> ?_,S.W.same.trans W3.same⟩
  ·rcases W3.fresh b o e with z|z|z
   ·exact S.W.fresh b o z
   ·exact .inr (.inl (SJ z))
   ·rcases SI b z with q|⟨j,h1,h2,h3⟩
    ·exact .inr (.inl (SJ q))
    ·rcases S.W.own j (qm _) (by rw[ln];lia)with q|q
     ·exact .inr (.inr (h3▸q))
     ·exact .inr (.inl (h3▸q))
  ·obtain⟨a,_,ha,qa⟩:=val j hj;rw[qa];exact S.W.own a (qm _) (by rw[ln];exact ha)
  ·have e1:=S.W.keep b o e h1 fun k hk=>absurd hk (qp _);refine kept b o e1 fun j hj q=> ?_;rcases S.W.own j (qm _) (by rw[ln];lia)with z|z
   ·exact h1 (q▸z)
   ·rw[q,e]at z;exact ns z
  ·obtain⟨o',e'⟩:=S.W.alive b o e;exact W3.alive b o' e'
 exact⟨W4,⟨S.H.fit,S.H.base.mono W3.i,abj⟩,l4,t4⟩
end
noncomputable def Gg(e:Expr):Expr:=match e with
 |.Attribute o _ _=>o
 |_=>default
noncomputable def abk(e:Expr):Pos:=match e with
 |.Attribute _ _ p=>p
 |_=>default
noncomputable def Gh:Expr:=Ye (fq 4)
theorem ZH:fq 4=.Assign [F8 (fq 4)] (.Call (.Attribute (Gg (mR Gh)) "run" (abk (mR Gh))) [] [] (vz Gh)) (Yg (fq 4)):=⋯
noncomputable def Bb(ns:List Int)(bg:Value)(T:Tree 3)(u:V):ai:=q6 ns bg T++[(("way":Str),u)]
section
variable{K:Frag}
theorem Yq(hn:n≤400)(hc:c≤20000):aW c n (lW q out main):=⟨by show(0:Int)+c≤20000;lia,rfl,by show 0+n≤400;lia,⟨q,.inl rfl⟩⟩
theorem Yr{ns:List Int}{T:Tree 3}{bg:Value}{rest:List Stmt}(ok:Tree.ok 3 T)(hl:(Tree.rd 3 T).1.length≤400)(e:Tree.node 3 T=aj kb pb)(hk:L.k=k+100)(eO:L.fe=bP)(hX:∀b,aF L.env b→B.X b)
  (pL:∀u w',bO (Tree.rd 3 T) (cB 3) (lW q out main) u w'→gZ p w K L B false (FF (.list [] []) u w' [.list [] []]) (Bb ns bg T u) rest):gZ p w K L B false (jV kb pb (lW q out main)) (o7 ns bg T) (fq 4::rest):=by
 refine⟨fun I σ s W H l ti=> ?_⟩;have S0:LS p w K L B false I σ (jV kb pb (lW q out main)) (o7 ns bg T) s:=⟨W,H,l,ti⟩;have SG:L.fe.free=[]:=by rw[eO];rfl
 have Sd:=eX (mQ p w K) 60;rw[ZH];refine wpAny_execs_cons (Ga (cx:=bL p w K) l (by rw[eO];kernel_rfl) (by rw[eO];kernel_rfl) ⋯ ?_);have H0:au (bL p w K) (k+100) L.A I σ (jV kb pb (lW q out main)) s:=hk▸H;have l0:av w.params bP (o7 ns bg T) L.env I σ (jV kb pb (lW q out main)).length s.heap:=eO▸l;have g1:iL ((cX (bL p w K) 60).e (k+100) bP (o7 ns bg T) (jV kb pb (lW q out main)) (Gg (mR Gh)))=true:=⋯;have g2:ja ((cX (bL p w K) 60).e (k+100) bP (o7 ns bg T) (jV kb pb (lW q out main)) (Gg (mR Gh))):=gW ⋯;have g3:rW ((cX (bL p w K) 60).e (k+100) bP (o7 ns bg T) (jV kb pb (lW q out main)) (Gg (mR Gh)))=.loc 1:=⋯;have g4:rX ((cX (bL p w K) 60).e (k+100) bP (o7 ns bg T) (jV kb pb (lW q out main)) (Gg (mR Gh)))=jV kb pb (lW q out main):=⋯;have g5:oA (bL p w K) (jV kb pb (lW q out main)) (.loc 1) "run"=some (.top 559,[.loc 1]):=⋯;refine Ve (cx:=bL p w K) Sd H0 l0 ⋯ ⋯ g1 g2 g3 g4 g5 ⋯ fun I1 jq s1 z zs x1 xj H1 l1 rz Ex=> ?_;obtain⟨z1,ez,rz1⟩:=Ex.inv1;rw[show z=_ from rz.inv,ez,(tX rz1).1];have cl:bB (lW q out main).aa=true:=rfl;have cd:dF (lW q out main).md=true:=⋯;have S1:LS p w K L B false I1 jq (jV kb pb (lW q out main)) (o7 ns bg T) s1:=⟨W.step (qm _) (fun b (q:False)=>q.elim) x1 xj,hk▸H1,eO▸l1,ti.go x1 fun q=>q⟩;have Hr:au (bL p w K) (k+59+41) L.A I1 jq (FF (.list [] [.loc 9]) .none (lW q out main) (iB kb (aj kb pb))) s1:=⟨H1.fit,H1.base,QM cl cd H1.rel⟩;refine QL ok e (Yq hl (by decide)) Hr fun X I3 j9 s3 u w' y SI W3 abl en ry=> ?_;have S3:=S1.ran SG SI W3 abl (m':=q6 ns bg T) (.cons (.closed rfl) (.cons (.loc rfl) (.cons (.fix rfl) (.cons (.fix rfl) (.cons (.closed (fN 3 T)) (.cons (.fix rfl) .nil))))));obtain⟨ua,ub,rfl⟩:=Ge en.way;have ry':aq I3 w.params (dY kH jq) (FF (.list [] []) (aC ua ub) w' [.list [] []]).length (aC ua ub) y:=(kg ry rfl).up;have ep:iE bP (F8 (fq 4)) (aC ua ub) (q6 ns bg T)=some (Bb ns bg T (aC ua ub)):=⋯;have l3:av w.params bP (q6 ns bg T) L.env I3 (dY kH jq) (FF (.list [] []) (aC ua ub) w' [.list [] []]).length s3.heap:=eO▸S3.l;refine pA (cx:=bL p w K) S3.H l3 ry' ep fun s4 x4 Ot l4=> ?_;exact(pL _ w' en).out _ _ s4 (S3.W.step (qm _) hX x4 Ot) (S3.H.go x4) (eO▸l4) (S3.t.go x4 S3.t.o)
end
end
theorem xo{c:Int}(h0:0≤c)(h1:c≤1000001):(Str.ofString (toString c)).length≤7:=toString_length_le h0 (by decide) (by lia)
noncomputable def Val.d:Val→PyData
 |.none=>.none
 |.bool b=>.bool b
 |.int i=>.int i
noncomputable def Rz.d:Rz→PyData
 |.int i=>.int i
 |.str s=>.str s
noncomputable def Mark.d:Mark→PyData
 |.made i=>.tuple [.str "made",.int i]
 |.asked a b=>.tuple [.str "asked",a.d,b.d]
 |.guard i=>.tuple [.str "guard",.int i]
 |.bound n b=>.tuple [.str "bound",.str n,b.d]
noncomputable def bu.d:bu→PyData
 |.val x=>.tuple [.str "value",x.d]
 |.raise z=>.tuple [.str "raise",z.d]
section
theorem tD{x:Val}(r:aq I P σ n x.v y):Reads h y x.d []:=by
 induction x using Val.casesOn with
 |none=>cases r.inv;exact .none
 |bool b=>cases r.inv;exact .bool _
 |int i=>induction r.inv using fY.casesOn;exact .int _ _
theorem QN{z:Rz}(r:aq I P σ n z.v y):Reads h y z.d []:=by
 induction z using Rz.casesOn with
 |int i=>induction r.inv using fY.casesOn;exact .int _ _
 |str s=>induction r.inv using ou.casesOn;exact .str _ _
theorem lF(r:aq I P σ n (.str x) y):Reads h y (.str x) []:=by induction r.inv using ou.casesOn;exact .str _ _
theorem Dh(r:aq I P σ n (.int i) y):Reads h y (.int i) []:=by induction r.inv using fY.casesOn;exact .int _ _
theorem nB(sub:∀b o,I b=some o→h.get? b=some o)(r:aq I P σ n (.tup vs) y)(hr:∀xs,aG I P σ n vs xs→ReadsAll h xs ds []):Reads h y (.tuple ds) []:=by
 replace r:=r.inv;induction r using iV.casesOn with|mk g r=>exact .tuple (sub _ _ g) rfl rfl (hr _ r)
theorem tE(ha:∀{y},aq I P σ n a y→Reads h y da [])(hb:∀{y},aq I P σ n b y→Reads h y db [])(xs:LV)(q:aG I P σ n [a,b] xs):ReadsAll h xs [da,db] []:=by
 obtain⟨y,z,rfl,h1,h2⟩:=q.inv2;exact .cons (ha h1) (.cons (hb h2) .nil)
theorem yX(ha:∀{y},aq I P σ n a y→Reads h y da [])(hb:∀{y},aq I P σ n b y→Reads h y db [])(hc:∀{y},aq I P σ n c y→Reads h y dc [])(xs:LV)(q:aG I P σ n [a,b,c] xs):ReadsAll h xs [da,db,dc] []:=by
 obtain⟨y,z,u,rfl,h1,h2,h3⟩:=q.VM;exact .cons (ha h1) (.cons (hb h2) (.cons (hc h3) .nil))
theorem KI{m:Mark}(sub:∀b o,I b=some o→h.get? b=some o)(r:aq I P σ n m.v y):Reads h y m.d []:=by
 induction m using Mark.casesOn with
 |made i=>exact nB sub r (tE lF Dh)
 |asked a b=>exact nB sub r (yX lF tD tD)
 |guard i=>exact nB sub r (tE lF Dh)
 |bound x b=>exact nB sub r (yX lF lF tD)
theorem Di{w:bu}(sub:∀b o,I b=some o→h.get? b=some o)(r:aq I P σ n w.v y):Reads h y w.d []:=by
 induction w using bu.casesOn with
 |val x=>exact nB sub r (tE lF tD)
 |raise z=>exact nB sub r (tE lF QN)
theorem Ou(sub:∀b o,I b=some o→h.get? b=some o){ms:List Mark}:∀{xs:LV},aG I P σ n (ms.map Mark.v) xs→ReadsAll h xs (ms.map Mark.d) []:=by
 induction ms with
 |nil=>intro xs r;rw[show xs=[]from r.inv];exact .nil
 |cons m ms ih=>
  intro xs r;replace r:=r.inv;induction r using dP.casesOn with
  |mk h1 r=>exact .cons (KI sub h1) (ih r)
theorem GV{ms:List Mark}(sub:∀b o,I b=some o→h.get? b=some o)(g:h.get? a=some ob)(r:dw I P σ n (.list [] (ms.map Mark.v)) ob):Reads h (.ref a) (.list (ms.map Mark.d)) [a]:=by
 generalize hv:ms.map Mark.v=vs at r;replace r:=r.inv;induction r using jZ.casesOn with
 |mk ep hp q=>
  subst hv;exact .list g rfl rfl (Ou sub q)
end
theorem Ov{i:Int}(h0:0≤i)(h1:i≤100):i.natAbs.log2<1920:=by
 rcases Nat.eq_zero_or_pos i.natAbs with z|z
 ·rw[z];decide
 ·have:=(Nat.log2_lt (n:=i.natAbs) (k:=30) (by exact Nat.ne_of_gt ‹_›)).mpr (by lia);exact vV ‹_›
theorem KJ(h0:0≤i)(h1:i≤100):(PyData.int i).weight≤7:=by
 unfold PyData.weight
 split
 ·exact nz
 ·rename_i hz
  have hz':i≠0:=by simpa using hz
  have:=(Nat.log2_lt (n:=i.natAbs) (k:=7) (by lia)).mpr (by lia)
  assumption
theorem Ox{i:Int}(h0:0≤i)(h1:i≤100):PyData.leavesShort 8 (.int i)=true:=by
 simp only[PyData.leavesShort,decide_eq_true_eq];have:=xo h0 (by lia);show(Str.ofString (toString i)).length≤8;exact qP ‹_›
structure lG (B:Nat) (d:PyData):Prop where
 sh:d.showable=true
 lv:d.leavesShort 8=true
 nd:d.hasDict=false
 wt:d.weight≤B
theorem DK{i:Int}(h0:0≤i)(h1:i≤100):lG 7 (.int i):=⟨by simp only[PyData.showable,decide_eq_true_eq];exact Ov h0 h1,Ox h0 h1,rfl,KJ h0 h1⟩
theorem KN(hs:ni x)(hl:x.length≤B):lG B (.str x):=⟨rfl,by simp only[PyData.leavesShort,List.all_eq_true,decide_eq_true_eq];exact hs,rfl,by show x.cps.size≤B;exact hl⟩
theorem lG.up(h:lG B d)(q:B≤C):lG C d:=⟨h.sh,h.lv,h.nd,qB h.wt q⟩
theorem DL{x:Val}(ok:x.ok):lG 7 x.d:=by
 induction x using Val.casesOn with
 |none=>exact⟨rfl,rfl,rfl,by decide⟩
 |bool b=>exact⟨rfl,rfl,rfl,by show 0≤7;decide⟩
 |int i=>exact DK ok.1 (Int.le_trans ok.2 (by decide))
theorem Bc(h:lG x a)(k:lG y b):lG (x+y+2) (.tuple [a,b]):=by
 refine⟨?_, ?_, ?_, ?_⟩
 ·simp only[PyData.showable,PyData.showableAll,h.sh,k.sh];rfl
 ·simp only[PyData.leavesShort,PyData.leavesShortAll,h.lv,k.lv];rfl
 ·simp only[PyData.hasDict,PyData.hasDictAll,h.nd,k.nd];rfl
 ·simp only[PyData.weight,PyData.weightAll];have:=h.wt;have:=k.wt;lia
theorem Oz(h:lG x a)(k:lG y b)(l:lG z c):lG (x+y+z+3) (.tuple [a,b,c]):=by
 refine⟨?_, ?_, ?_, ?_⟩
 ·simp only[PyData.showable,PyData.showableAll,h.sh,k.sh,l.sh];rfl
 ·simp only[PyData.leavesShort,PyData.leavesShortAll,h.lv,k.lv,l.lv];rfl
 ·simp only[PyData.hasDict,PyData.hasDictAll,h.nd,k.nd,l.nd];rfl
 ·simp only[PyData.weight,PyData.weightAll];have:=h.wt;have:=k.wt;have:=l.wt;lia
theorem yh(s:String)(h:(Str.ofString s).length≤40):lG 40 (.str (Str.ofString s)):=KN (lz s) h
theorem Ys{m:Mark}(ok:Fp m):lG 200 m.d:=by
 induction m using Mark.casesOn with
 |made i=>exact(Bc (yh "made" (by decide)) (DK ok.1 (Int.le_trans ok.2 (by decide)))).up (by decide)
 |asked a b=>exact(Oz (yh "asked" (by decide)) (DL ok.1) (DL ok.2)).up (by decide)
 |guard i=>exact(Bc (yh "guard" (by decide)) (DK ok.1 (Int.le_trans ok.2 (by decide)))).up (by decide)
 |bound n b=>exact(Oz (yh "bound" (by decide)) (KN ok.1.2 ok.1.1) (DL ok.2)).up (by decide)
theorem Ip{x:Val}(ok:x.ok):ni (eB x)∧(eB x).length≤7:=by
 induction x using Val.casesOn with
 |none=>exact⟨lz "nil",by decide⟩
 |bool b=>induction b using qd;exact⟨lz "false",by decide⟩;exact⟨lz "true",by decide⟩
 |int i=>exact⟨lz _,xo ok.1 (by have:=ok.2;lia)⟩
theorem abm(ok:BZ z):lG 40 z.d:=by
 induction z using Rz.casesOn with
 |int i=>exact(DK ok.1 ok.2).up (by decide)
 |str s=>
  obtain⟨x,hx,rfl⟩:=ok;obtain⟨h1,h2⟩:=Ip hx;have e:("NoMatchingPatternError ":Str).length=23:=by decide
  exact KN (CL (lz _) h1) (by rw[strLen_append];lia)
theorem DM{w:bu}(ok:oX w):lG 200 w.d:=by
 induction w using bu.casesOn with
 |val x=>exact(Bc (yh "value" (by decide)) (DL ok)).up (by decide)
 |raise z=>exact(Bc (yh "raise" (by decide)) (abm ok)).up (by decide)
theorem lG.len(h:lG B d):d.shown.length≤10*B+8:=by
 have:=PyData.shown_le 8 (by decide) d h.lv;have:=h.wt;lia
theorem Iq:∀{ms:List Mark},xX ms→PyData.showableAll (ms.map Mark.d)=true∧PyData.leavesShortAll 8 (ms.map Mark.d)=true∧PyData.hasDictAll (ms.map Mark.d)=false∧PyData.weightAll (ms.map Mark.d)≤201*ms.length
 |[],_=>⟨rfl,rfl,rfl,qf _⟩
 |m::ms,ok=>by
  obtain⟨h1,h2,h3,h4⟩:=Iq fun x hx=>ok x (qj _ hx);have h:=Ys (ok m qi);refine⟨?_, ?_, ?_, ?_⟩
  ·simp only[List.map_cons,PyData.showableAll,h.sh,h1];rfl
  ·simp only[List.map_cons,PyData.leavesShortAll,h.lv,h2];rfl
  ·simp only[List.map_cons,PyData.hasDictAll,h.nd,h3];rfl
  ·simp only[List.map_cons,PyData.weightAll,List.length_cons];have:=h.wt;lia
theorem Yt{ms:List Mark}(ok:xX ms):lG (201*ms.length) (.list (ms.map Mark.d)):=by
 obtain⟨h1,h2,h3,h4⟩:=Iq ok;exact⟨by simp only[PyData.showable];exact h1,by simp only[PyData.leavesShort];exact h2,by simp only[PyData.hasDict];exact h3,by simp only[PyData.weight];exact h4⟩
section
open PySem.SeqAt
section
variable{K:Frag}
theorem yi{st:St}{m:ai}{x:Stmt}{rest:List Stmt}(Sd:aU (kL p w S aI as K) ev)(hX:∀b,aF L.env b→B.X b)
  (g:Gd S aI (iA (kL p w S aI as K) ev L.k L.fe m st x) fun q=>q.1.1=.next∧gZ p w K L B f q.2 q.1.2 rest):gZ p w K L B f st m (x::rest):=by
 refine⟨fun I σ s W H l ti=> ?_⟩;have H':au (kL p w S aI as K) L.k L.A I σ st s:=H.cx;refine wpAny_execs_cons (mW Sd H' l (Good.mono (fun q gq dj bH f br bQ cK ro=> ?_) g.out));obtain⟨⟨out,m₂⟩,bW⟩:=q;obtain⟨ro,dX⟩:=ro;obtain⟨e1,at'⟩:=gq;cases e1
 obtain rfl:=ro;exact at'.out _ _ br (W.step (qm _) hX bQ cK) (H'.go bQ).cx dX (ti.go bQ ti.o)
noncomputable def jW:bu→V:=fun d=>match d with
 |.val x=>x.v
 |.raise z=>z.v
noncomputable def gF:bu→Str
 |.val _=>"value"
 |.raise _=>"raise"
noncomputable def gG(ns:List Int)(bg:Value)(T:Tree 3)(u v:V):ai:=Bb ns bg T u++[(("value":Str),v)]
theorem Yu{ns:List Int}{T:Tree 3}{bg:Value}(hw:oZ d u)(Gi:oX d)(hk:L.k=k+100)(eO:L.fe=bP)(hX:∀b,aF L.env b→B.X b)
  (pL:∀v0,u=aC (gF d) v0→gZ p w K L B false (FF (.list [] []) u w' [.list [] []]) (gG ns bg T u (jW d)) rest):gZ p w K L B false (FF (.list [] []) u w' [.list [] []]) (Bb ns bg T u) (fq 5::fq 6::rest):=by
 have Sd:=eX (mQ p w K) 60;have plain:∀(a:Str) (v:V),(v=.none∨(∃b,v=.bool b)∨∃i,v=.int i)→(gZ p w K L B false (FF (.list [] []) (aC a v) w' [.list [] []]) (gG ns bg T (aC a v) v) rest)→gZ p w K L B false (FF (.list [] []) (aC a v) w' [.list [] []]) (Bb ns bg T (aC a v)) (fq 5::fq 6::rest):=fun a v hv hh=>by
  refine yi (S:=fun _ _ _ _ _=>False) (as:=[]) (ev:=cX (bL p w K) 60) Sd hX ?_;rw[hk,eO];refine kK (a:=((.next,gG ns bg T (aC a v) v),FF (.list [] []) (aC a v) w' [.list [] []])) (by rcases hv with rfl|⟨b,rfl⟩|⟨i,rfl⟩<;>kernel_rfl) (gW (by rcases hv with rfl|⟨b,rfl⟩|⟨i,rfl⟩<;>kernel_rfl)) ⟨rfl, ?_⟩
  refine yi (S:=fun _ _ _ _ _=>False) (as:=[]) (ev:=cX (bL p w K) 60) Sd hX ?_;rw[hk,eO];exact kK (a:=((.next,gG ns bg T (aC a v) v),FF (.list [] []) (aC a v) w' [.list [] []])) (by rcases hv with rfl|⟨b,rfl⟩|⟨i,rfl⟩<;>kernel_rfl) (gW (by rcases hv with rfl|⟨b,rfl⟩|⟨i,rfl⟩<;>kernel_rfl)) ⟨rfl,hh⟩
 induction d using bu.casesOn with
 |val x=>
  have hu:u=aC "value" x.v:=hw;subst hu;exact plain _ _ (by induction x using Val.casesOn;exact .inl rfl;exact .inr (.inl ⟨_,rfl⟩);exact .inr (.inr ⟨_,rfl⟩)) (pL _ rfl)
 |raise z=>
  obtain⟨e,ce,hz,hu⟩:=hw;subst hu;induction z using Rz.casesOn with
  |int i=>
   have he:e=.int i:=hz;subst he;exact plain _ _ (.inr (.inr ⟨i,rfl⟩)) (pL _ rfl)
  |str s=>
   obtain⟨t,a1,a2,a3,o1,x,es,rfl⟩:=hz;obtain⟨xv,hxv,es2⟩:=Gi;have kX:t.length≤20:=by
    obtain⟨_,h2⟩:=Ip hxv;have e1:=congrArg Str.length (es.symm.trans es2);rw[strLen_append,strLen_append]at e1;lia
   refine yi (S:=fun _ _ _ _ _=>False) (as:=[]) (ev:=cX (bL p w K) 60) Sd hX ?_;rw[hk,eO];refine kK (a:=((.next,gG ns bg T (aC "raise" (B8 a1 a2 a3 o1 x t)) (B8 a1 a2 a3 o1 x t)),FF (.list [] []) (aC "raise" (B8 a1 a2 a3 o1 x t)) w' [.list [] []])) ⋯ (gW ⋯) ⟨rfl, ?_⟩;refine yi (S:=fun _ _ _ _ _=>False) (as:=[]) (ev:=cX (bL p w K) 60) Sd hX ?_;rw[hk,eO];have el:((("NoMatchingPatternError":Str)++(" ":Str))++t).length≤16777216:=by
    have e1:(("NoMatchingPatternError":Str)++(" ":Str)).length=23:=by decide+kernel
    rw[strLen_append];lia
   have ee:(("NoMatchingPatternError":Str)++(" ":Str))++t="NoMatchingPatternError "++t:=by
    have e1:(("NoMatchingPatternError":Str)++(" ":Str))=("NoMatchingPatternError ":Str):=by decide+kernel
    rw[e1]
   refine kK (a:=((.next,gG ns bg T (aC "raise" (B8 a1 a2 a3 o1 x t)) (.str ((("NoMatchingPatternError":Str)++(" ":Str))++t))),FF (.list [] []) (aC "raise" (B8 a1 a2 a3 o1 x t)) w' [.list [] []])) ⋯ (nd (p:=23≤16777216∧((("NoMatchingPatternError":Str)++(" ":Str))++t).length≤16777216∧True) ⋯ ⟨by decide,el,trivial⟩) ⟨rfl, ?_⟩;rw[ee];subst es;exact pL _ rfl
end
section
variable{st:St}
theorem OA(H:au cx (k+1) A I σ st s)(r:Reads s.heap (.ref a) d as)(ok:lG B d)(hB:10*B+8≤sizeLine)(hd:d.depth≤3)
  (h:∀s' t,aM cx.P (fun _=>False) I σ st.length s.heap I σ st s'.heap→bw s s'→Q (.str d.shown t) s'):wpAny cx.M A (call (.builtin "repr") [.ref a]) Q E s:=by
 have hl:=ok.len;refine repr_of_reads' (h₀:=s.heap) r ok.sh (PyData.noDict_hsm ok.nd) H.fit.guards ?_ (fun _ _ e=>e) (fun h' u tk kp=>h {s with heap:=h',toks:=tk} u (aM.grow H.rel kp) ⟨rfl,rfl,rfl⟩) (by exact qB ‹_› ‹_›);have:=H.fit.units;lia
theorem Dj(Sd:aU cx ev)(H:au cx (k+1) A I σ st s)(l:av cx.P fe m env I σ st.length s.heap)(hp:ud aE=true)(he:eval (.Call fE [aE] [] pos) env=(do callWith pos (←eval fE env) [] (backTo pos (starEach [aE] env)) (backToKw pos (keywordEach [] env))))
  (g1:iL (ev.e (k+1) fe m st fE)=true)(g2:ja (ev.e (k+1) fe m st fE))(g3:rW (ev.e (k+1) fe m st fE)=.bi .repr)(g4:rX (ev.e (k+1) fe m st fE)=st)
  (ha:∀I1 jq s1,aM cx.P (fun _=>False) I σ st.length s.heap I1 jq st s1.heap→bw s s1→au cx (k+1) A I1 jq st s1→av cx.P fe m env I1 jq st.length s1.heap→wpAny cx.M A (eval aE env) (fun y s2=>∃I2 fF st2 a d as B,y=.ref a∧aM cx.P (fun _=>False) I1 jq st.length s1.heap I2 fF st2 s2.heap∧bw s1 s2∧
   au cx (k+1) A I2 fF st2 s2∧Reads s2.heap (.ref a) d as∧lG B d∧10*B+8≤sizeLine∧d.depth≤3∧(∀s3 t,aM cx.P (fun _=>False) I2 fF st2.length s2.heap I2 fF st2 s3.heap→bw s2 s3→Q (.str d.shown t) s3)) E s1):wpAny cx.M A (eval (.Call fE [aE] [] pos) env) Q E s:=by
 refine Call_ (ku Sd H l g1 g2 g3 g4 fun I1 jq s1 yf x1 xj H1 l1 r1=> ?_) he;have RX:g8 [aE]=true:=by unfold g8;rw[hp];rfl
 refine vv (f:=.bi .repr) RX rfl H1 r1 ?_;refine args_cons (wpAny_mono (ha I1 jq s1 x1 xj H1 l1) (fun y s2 hy=> ?_) fun _ _ x=>x) (eW _ _ hp);obtain⟨I2,fF,st2,a,d,as,B,rfl,x2,Ba,H2,rd,ok,hB,hd,hq⟩:=hy;refine args_nil ⟨fun b o e=>H2.rel.sub b o (x2.le.i b o e), ?_⟩;cases r1.inv
 exact OA H2 rd ok hB hd hq
end
noncomputable def Yv(s:Stmt):Expr:=match s with
 |.Return e _=>match e with
  |some e=>e
  |none=>default
 |_=>default
noncomputable def abn(s:Stmt):Pos:=match s with
 |.Return _ p=>p
 |_=>default
noncomputable def ZI(e:Expr):List Expr:=match e with
 |.BoolOp _ l _=>l
 |_=>[]
noncomputable def ZJ(e:Expr):Pos:=match e with
 |.BoolOp _ _ p=>p
 |_=>default
noncomputable def abo(e:Expr):Expr:=match e with
 |.Compare l _ _ _=>l
 |_=>default
noncomputable def abp(e:Expr):Expr:=match e with
 |.Compare _ _ rs _=>zI rs 0
 |_=>default
noncomputable def Yw(e:Expr):Pos:=match e with
 |.Compare _ _ _ p=>p
 |_=>default
noncomputable def cE(i:Nat):Expr:=zI (ZI (Yv (fq 7))) i
noncomputable def lE(i:Nat):Expr:=abo (cE i)
noncomputable def rE(i:Nat):Expr:=abp (cE i)
noncomputable def tW(e:Expr):Expr:=zI (sF e) 0
theorem ZK:fq 7=.Return (some (.BoolOp .And [.Compare (.Call (mR (lE 0)) [tW (lE 0)] [] (vz (lE 0))) [.Eq] [.Call (mR (rE 0)) [tW (rE 0)] [] (vz (rE 0))] (Yw (cE 0)),.Compare (.Call (mR (lE 1)) [tW (lE 1)] [] (vz (lE 1))) [.Eq] [.Call (mR (rE 1)) [tW (rE 1)] [] (vz (rE 1))] (Yw (cE 1)),cE 2] (ZJ (Yv (fq 7))))) (abn (fq 7)):=⋯
theorem Vf:jH rU=[fq 0,fq 1,fq 2,fq 3,fq 4,fq 5,fq 6,fq 7]:=⋯
section
variable{st:St}
theorem QO(x:Str):seq x x=true:=by
 induction h:seq x x using qd with
 |true=>rfl
 |false=>exact absurd rfl (iD.mp h)
theorem QS(H:au cx k A I σ st s)(h:∀t',Q (.bool true) {s with toks:=t'}):wpAny cx.M A (compareOp .Eq (.str x t) (.str x u)) Q E s:=
 D6 (a:=.str x) (b:=.str x) (v:=.bool true) H (.str x t) (.str x u) (by show some (V.bool (seq x x))=_;rw[QO]) fun y t' r=>by cases r.inv;exact h t'
def xq(cx:Cx)(k:Nat)(A:Around)(fe:FE)(m:ai)(env:Env)(E:dU)(a:Expr)(st st2:St)(d:PyData):Prop:=
 ∀I σ s,au cx k A I σ st s→av cx.P fe m env I σ st.length s.heap→wpAny cx.M A (eval a env) (fun y s2=>∃I2 fF b as B,y=.ref b∧aM cx.P (fun _=>False) I σ st.length s.heap I2 fF st2 s2.heap∧bw s s2∧Reads s2.heap (.ref b) d as∧lG B d∧10*B+8≤sizeLine∧d.depth≤3) E s
theorem Bd{ev:Ev}{f1 f2 a1 a2:Expr}(Sd:aU cx ev)(H:au cx (k+1) A I σ st s)(l:av cx.P fe m env I σ st.length s.heap)(C9:ud a1=true)(Yx:ud a2=true)(he1:eval (.Call f1 [a1] [] p1) env=(do callWith p1 (←eval f1 env) [] (backTo p1 (starEach [a1] env)) (backToKw p1 (keywordEach [] env))))(he2:eval (.Call f2 [a2] [] p2) env=(do callWith p2 (←eval f2 env) [] (backTo p2 (starEach [a2] env)) (backToKw p2 (keywordEach [] env))))
  (f11:iL (ev.e (k+1) fe m st f1)=true)(f12:ja (ev.e (k+1) fe m st f1))(f13:rW (ev.e (k+1) fe m st f1)=.bi .repr)(f14:rX (ev.e (k+1) fe m st f1)=st)
  (f21:iL (ev.e (k+1) fe m st f2)=true)(f22:ja (ev.e (k+1) fe m st f2))(f23:rW (ev.e (k+1) fe m st f2)=.bi .repr)(f24:rX (ev.e (k+1) fe m st f2)=st)
  (h1:xq cx (k+1) A fe m env E a1 st st d)(h2:xq cx (k+1) A fe m env E a2 st st2 d)
  (h:∀I3 j9 s3,aM cx.P (fun _=>False) I σ st.length s.heap I3 j9 st2 s3.heap→bw s s3→Q (.bool true) s3):
  wpAny cx.M A (eval (.Compare (.Call f1 [a1] [] p1) [.Eq] [.Call f2 [a2] [] p2] pc) env) Q E s:=by
 refine wpAny_Compare1 (Dj Sd H l C9 he1 f11 f12 f13 f14 fun I1 jq s1 x1 xj H1 l1=>wpAny_mono (h1 I1 jq s1 H1 l1) (fun y s2 hy=> ?_) fun _ _ x=>x) (by rfl);obtain⟨I2,fF,b,as,B,rfl,x2,Ba,rd,ok,hB,hd⟩:=hy;refine⟨I2,fF,st,b,d,as,B,rfl,x2,Ba,H1.go x2,rd,ok,hB,hd,fun s3 t x3 Gb=> ?_⟩;have Yy:=(x1.trans x2).trans x3;have l3:=l.ext Yy;have H3:=H.go Yy;refine Dj Sd H3 l3 Yx he2 f21 f22 f23 f24 fun I4 σ4 s4 x4 Ot H4 l4=>wpAny_mono (h2 I4 σ4 s4 H4 l4) (fun y s5 hy=> ?_) fun _ _ x=>x;obtain⟨I5,F7,b',Sx,B',rfl,x5,SH,rd',fS,hB',Vy⟩:=hy;refine⟨I5,F7,st2,b',d,Sx,B',rfl,x5,SH,H4.go x5,rd',fS,hB',Vy,fun s6 t' x6 Og=> ?_⟩;have x16:=((Yy.trans x4).trans x5).trans x6;refine QS (H.go x16) fun t''=>h I5 F7 {s6 with toks:=t''} x16 ?_;exact(((((xj.trans Ba).trans Gb).trans Ot).trans SH).trans Og).trans ⟨rfl,rfl,rfl⟩
end
theorem ZM(d:bu):V.tup [.str (gF d),jW d]=d.v:=by induction d using bu.casesOn<;>rfl
theorem tF(d:bu):d.d.depth≤3:=by
 induction d using bu.casesOn with
 |val x=>induction x using Val.casesOn<;>exact rB
 |raise z=>induction z using Rz.casesOn<;>exact rB
theorem GW(ms:List Mark):(PyData.list (ms.map Mark.d)).depth≤3:=by
 have h:PyData.depthAll (ms.map Mark.d)≤1:=by
  induction ms with
  |nil=>exact nz
  |cons m ms ih=>
   have hm:m.d.depth≤1:=by
    induction m using Mark.casesOn with
    |made i=>exact qf _
    |asked a b=>induction a using Val.casesOn<;>induction b using Val.casesOn<;>simp[Mark.d,Val.d,PyData.depth,PyData.depthAll]
    |guard i=>exact qf _
    |bound n b=>induction b using Val.casesOn<;>exact rB
   simp only[List.map_cons,PyData.depthAll];lia
 simp only[PyData.depth];lia
section
variable{K:Frag}{B:Bs}
noncomputable abbrev lH(d:bu)(v0:V)(ms:List Mark)(wt wl:Int)(md:ai)(wo wm:Value)(yW:List V):St:=FF (.list [] []) (aC (gF d) v0) ⟨ms.map Mark.v,wt,wl,md,wo,wm⟩ [.list [] yW]
section
variable{ns:List Int}{ms:List Mark}{wo wm:Value}{A:Around}{env:Env}{E:dU}
theorem OB(Gi:oX d):xq (az p w K 20) (k+99+1) A bP (gG ns bg T (aC (gF d) v0) (jW d)) env E (tW (lE 0)) (lH d v0 ms wt wl md wo wm yW) (lH d v0 ms wt wl md wo wm yW) d.d:=by
 intro I σ s H l;have Sd:=eX (xY p w K 20) 60;have g1:iL ((cX (az p w K 20) 60).e (k+99+1) bP (gG ns bg T (aC (gF d) v0) (jW d)) (lH d v0 ms wt wl md wo wm yW) (tW (lE 0)))=true:=⋯;have g2:ja ((cX (az p w K 20) 60).e (k+99+1) bP (gG ns bg T (aC (gF d) v0) (jW d)) (lH d v0 ms wt wl md wo wm yW) (tW (lE 0))):=gW ⋯;have g3:rW ((cX (az p w K 20) 60).e (k+99+1) bP (gG ns bg T (aC (gF d) v0) (jW d)) (lH d v0 ms wt wl md wo wm yW) (tW (lE 0)))=.tup [.str (gF d),jW d]:=⋯;have g4:rX ((cX (az p w K 20) 60).e (k+99+1) bP (gG ns bg T (aC (gF d) v0) (jW d)) (lH d v0 ms wt wl md wo wm yW) (tW (lE 0)))=lH d v0 ms wt wl md wo wm yW:=⋯;refine ku (cx:=az p w K 20) Sd H l g1 g2 g3 g4 fun I1 jq s1 y x sm H1 l1 r=> ?_;rw[ZM]at r;have rd:=Di H1.rel.sub r;induction d using bu.casesOn with
 |val x0=>induction r.inv using iV.casesOn;exact⟨I1,jq,_,[],200,rfl,x,sm,rd,DM Gi,by rw[sizeLine_eq];simp,tF _⟩
 |raise z0=>induction r.inv using iV.casesOn;exact⟨I1,jq,_,[],200,rfl,x,sm,rd,DM Gi,by rw[sizeLine_eq];lia,tF _⟩
theorem KO(hl:ms.length≤288)(lS:Tree.ok 3 T)(hr:Tree.rd 3 T=(ms,d))(Gi:oX d):xq (az p w K 20) (k+99+1) A bP (gG ns bg T (aC (gF d) v0) (jW d)) env E (tW (rE 0)) (lH d v0 ms wt wl md wo wm []) (lH d v0 ms wt wl md wo wm (ms.map Mark.v)) d.d:=by
 intro I σ s H l;have Sd:=eX (xY p w K 20) 60;have ev:(cS.tree 3 T).val=d.v:=by show(Tree.rd 3 T).2.v=_;rw[hr]
 have em:(cS.tree 3 T).marks=ms:=by show(Tree.rd 3 T).1=_;rw[hr]
 refine Sd.e H l (Gd.out (S:=dS 20) (pre:=aI) ?_);refine ya (.tree 3 T) 8 (by show 6<20;decide) ⋯ (gW ⋯) (k+100) ⋯ (qg 26 (k+74)) lS (mk:=[]) ⋯ (DF rfl (by rw[em];show 0+_≤400;lia)) ?_;rw[ev,show cS.all (.tree 3 T) []=ms.map Mark.v from congrArg (List.map Mark.v) em];refine kK (a:=(d.v,lH d v0 ms wt wl md wo wm (ms.map Mark.v))) ⋯ (gW ⋯) ?_;intro I1 jq y s1 x sm r;have rd:=Di x.rel.sub r;induction d using bu.casesOn with
 |val x0=>induction r.inv using iV.casesOn;exact⟨I1,jq,_,[],200,rfl,x,sm,rd,DM Gi,by rw[sizeLine_eq];lia,tF _⟩
 |raise z0=>induction r.inv using iV.casesOn;exact⟨I1,jq,_,[],200,rfl,x,sm,rd,DM Gi,by rw[sizeLine_eq];lia,tF _⟩
theorem Be(hl:ms.length≤288)(okm:xX ms)(hj:(lH d v0 ms wt wl md wo wm (ms.map Mark.v))[j]? =some (.list [] (ms.map Mark.v)))
  (g1:iL ((cX (az p w K 20) 60).e (k+99+1) bP (gG ns bg T (aC (gF d) v0) (jW d)) (lH d v0 ms wt wl md wo wm (ms.map Mark.v)) a)=true)(g2:ja ((cX (az p w K 20) 60).e (k+99+1) bP (gG ns bg T (aC (gF d) v0) (jW d)) (lH d v0 ms wt wl md wo wm (ms.map Mark.v)) a))
  (g3:rW ((cX (az p w K 20) 60).e (k+99+1) bP (gG ns bg T (aC (gF d) v0) (jW d)) (lH d v0 ms wt wl md wo wm (ms.map Mark.v)) a)=.loc j)(g4:rX ((cX (az p w K 20) 60).e (k+99+1) bP (gG ns bg T (aC (gF d) v0) (jW d)) (lH d v0 ms wt wl md wo wm (ms.map Mark.v)) a)=lH d v0 ms wt wl md wo wm (ms.map Mark.v)):
  xq (az p w K 20) (k+99+1) A bP (gG ns bg T (aC (gF d) v0) (jW d)) env E a (lH d v0 ms wt wl md wo wm (ms.map Mark.v)) (lH d v0 ms wt wl md wo wm (ms.map Mark.v)) (.list (ms.map Mark.d)):=by
 intro I σ s H l;refine ku (cx:=az p w K 20) (eX (xY p w K 20) 60) H l g1 g2 g3 g4 fun I1 jq s1 y x sm H1 l1 r=> ?_;induction r.inv using iG.casesOn
 obtain⟨ob,g,gB⟩:=H1.rel.cells j _ hj;exact⟨I1,jq,_,_,201*ms.length,rfl,x,sm,GV H1.rel.sub g gB,Yt okm,by rw[sizeLine_eq];lia,GW ms⟩
end
theorem Yz{ns:List Int}{T:Tree 3}(lS:Tree.ok 3 T)(hu:u=aC (gF (Tree.rd 3 T).2) v0)(hm:w'.aa=(Tree.rd 3 T).1.map Mark.v)(hk:L.k=k+100)(eO:L.fe=bP)(hX:∀b,aF L.env b→B.X b)
  (hQ:∀I σ n s,fJ 0 B I σ n s→mZ L false I σ n s→L.Q (.ret (.bool true)) s):gZ p w K L B false (FF (.list [] []) u w' [.list [] []]) (gG ns bg T u (jW (Tree.rd 3 T).2)) [fq 7]:=by
 have bX:=mE lS;generalize hr:Tree.rd 3 T=r at*;obtain⟨ms,d⟩:=r;dsimp only at*;subst hu;have kX:ms.length≤288:=bX.k.l;obtain⟨aa,wt,wl,md,wo,wm⟩:=w';dsimp only at hm;subst hm;refine⟨fun I σ s W H l ti=> ?_⟩;have Sd:=eX (xY p w K 20) 60;have Hc:au (az p w K 20) (k+99+1) L.A I σ (FF (.list [] []) (aC (gF d) v0) ⟨ms.map Mark.v,wt,wl,md,wo,wm⟩ [.list [] []]) s:=(show au (bL p w K) (k+100) L.A I σ _ s from hk▸H).cx;have l0:av w.params bP (gG ns bg T (aC (gF d) v0) (jW d)) L.env I σ (FF (.list [] []) (aC (gF d) v0) ⟨ms.map Mark.v,wt,wl,md,wo,wm⟩ [.list [] []]).length s.heap:=eO▸l;rw[ZK];refine wpAny_execs_cons (wpAny_Return_some (BoolOp_and ?_));refine Bd (cx:=az p w K 20) (d:=d.d) (st2:=lH d v0 ms wt wl md wo wm (ms.map Mark.v)) Sd Hc l0 ⋯ ⋯ (by rfl) (by rfl) ⋯ (gW ⋯) ⋯ ⋯ ⋯ (gW ⋯) ⋯ ⋯ (OB bX.w) (KO kX lS hr bX.w) fun I1 jq s1 x1 xj=> ?_;refine wpAny_truthy_bool ?_;show wpAny _ _ (eval (.BoolOp .And _ _) _) _ _ _;refine BoolOp_and ?_;have H1:=Hc.go x1;have l1:=l0.ext x1;refine Bd (cx:=az p w K 20) (d:=.list (ms.map Mark.d)) (st2:=lH d v0 ms wt wl md wo wm (ms.map Mark.v)) Sd H1 l1 ⋯ ⋯ (by rfl) (by rfl) ⋯ (gW ⋯) ⋯ ⋯ ⋯ (gW ⋯) ⋯ ⋯
  (Be (j:=5) kX bX.k.m rfl ⋯ (gW ⋯) ⋯ ⋯) (Be (j:=8) kX bX.k.m rfl ⋯ (gW ⋯) ⋯ ⋯) fun I2 fF s2 x2 Ba=> ?_
 refine wpAny_truthy_bool ?_;show wpAny _ _ (eval (.BoolOp .And _ _) _) _ _ _;refine BoolOp_one ?_;have H2:=H1.go x2;have l2:=l1.ext x2;have g1:iL ((cX (az p w K 20) 60).e (k+99+1) bP (gG ns bg T (aC (gF d) v0) (jW d)) (lH d v0 ms wt wl md wo wm (ms.map Mark.v)) (cE 2))=true:=⋯;have g2:ja ((cX (az p w K 20) 60).e (k+99+1) bP (gG ns bg T (aC (gF d) v0) (jW d)) (lH d v0 ms wt wl md wo wm (ms.map Mark.v)) (cE 2)):=gW ⋯;have g3:rW ((cX (az p w K 20) 60).e (k+99+1) bP (gG ns bg T (aC (gF d) v0) (jW d)) (lH d v0 ms wt wl md wo wm (ms.map Mark.v)) (cE 2))=.bool true:=⋯;refine ku (cx:=az p w K 20) Sd H2 l2 g1 g2 g3 rfl fun I3 j9 s3 y x3 Gb H3 l3 r3=> ?_;cases r3.inv
 have x:=(x1.trans x2).trans x3;exact hQ _ _ _ _ (W.step (qm _) (fun b (q:False)=>q.elim) x ((xj.trans Ba).trans Gb)) (ti.go x fun q=>q)
end
section
variable{K:Frag}
theorem QT{ns:List Int}(hl:ns.length≤63)(hk:L.k=k+100)(eO:L.fe=bP)(hX:∀b,aF L.env b→B.X b)(Oq:B.X L.T)(kb:KB B.I 1265 L.T)
  (hQ:∀I σ n s,fJ 0 B I σ n s→mZ L false I σ n s→L.Q (.ret (.bool true)) s):gZ p w K L B true [] (KC ns) (jH rU):=by
 rw[Vf];refine XN hl hk eO hX fun o eL=> ?_;refine XR eL hk eO hX fun T y lS=> ?_;refine Yl hk eO hX Oq kb fun q out main=> ?_;refine Ym lS hk eO hX fun Yn pb e=> ?_;have bX:=mE lS;have hm:mB 3=288:=by decide
 refine Yr lS (by have:=bX.k.l;exact vV ‹_›) e hk eO hX fun u w' en=> ?_;refine Yu en.way bX.w hk eO hX fun v0 hu=> ?_;exact Yz lS hu (by rw[en.aa];rfl) hk eO hX hQ
end
section
variable{K:Frag}
set_option backward.match.sparseCases true in
theorem QU{ns:List Int}(hl:ns.length≤63)(H:au (bL p w K) (k+101) A I σ [] s)(kb:KB I 1265 T)(iT:I T=none)(tT:s.heap.get? T=some (tabObj #[]))(ry:aq I w.params σ 0 (.lst (ns.map V.num)) y)
  (hQ:∀s',(∀b o,s.heap.get? b=some o→b≠T→s'.heap.get? b=some o)→bw s s'→(∃ps,s'.heap.get? T=some (tabObj ps))→Q (.bool true) s'):
  wpAny (model p w) A (call (.ref 1273) [y]) Q E s:=by
 obtain⟨⟨o,h1,h2,h3⟩,hc,gl,bl,cl,df⟩:=H.base.fns 1273 rU [] (q9 (a:=1273) ⋯);have H1:au (bL p w K) (k+100+1) A I σ [] s:=H;refine zH (E:=E) (m:=KC ns) (body:=jH rU) H1 h1 h3 gl bl hc cl ⋯ (.cons ry .nil) ⋯ ⋯ ⋯ fun env s₁ he rO kp sm hf lo E'=> ?_
 let X:Addr→Prop:=fun b=>b=T∨s.heap.get? b=none
 let L:LW:=⟨k+100,A.deeper env,bP,env,fun f s'=>Q (match f with|.ret v=>v|_=>.none) s',E',T⟩
 have hX:∀b,aF L.env b→X b:=fun b hb=>.inr (rO b hb);have oT:¬aF env T:=fun q=>by rw[rO T q]at tT;exact nn tT
 have at0:=QT (p:=p) (w:=w) (K:=K) (L:=L) (B:=⟨X,I,σ,s⟩) hl rfl rfl hX (.inl rfl) kb fun I' af n s' W t=>by
  show Q (.bool true) s';refine hQ s' (fun b o e hb=>W.keep b o e (fun q=> ?_) fun j hj=>absurd hj (qp _)) W.same ((by obtain⟨ps,h,_⟩:=t.t;exact⟨ps,h⟩));rcases q with q|q
  ·exact hb q
  ·have q:s.heap.get? b=none:=q;rw[e]at q;cases q
 have W0:fJ 0 ⟨X,I,σ,s₁⟩ I σ 0 s₁:=fJ.refl 0 ⟨X,I,σ,s₁⟩ 0 fun j h1 h2=>absurd h2 (qp _);exact at0.out I σ s₁ (W0.back kp sm) ⟨hf,H.base,(aM.grow H.rel kp).rel⟩ lo ⟨iT,fun j hj=>absurd hj (qp _),oT,_,kp _ _ tT,fun _=>rfl⟩
end
end
noncomputable def xr:Nat→(Nat→Obj)→Nat→BT
 |0,_,_=>.nil
 |f+1,g,n=>match n with
  |0=>.nil
  |n+1=>.node (g 0) (xr f (fun i=>g (Nat.succ (Nat.mul 2 i))) (Nat.div (Nat.succ n) 2)) (xr f (fun i=>g (Nat.succ (Nat.succ (Nat.mul 2 i)))) (Nat.div n 2))
theorem Vg(f:Nat):∀(g:Nat→Obj) (n a:Nat),n<2^f→a<n→(xr f g n).get a=some (g a):=by
 induction f with
 |zero=>exact fun g n a h ha=>absurd (qy ha (qO h)) (qp _)
 |succ f ih=>
  intro g n a h ha;induction n using qk with
  |zero=>exact absurd ha (qp _)
  |succ n=>
   have p2:n+1<2^f*2:=h;refine(BT.get_node ..).trans ?_;by_cases h0:a=0
   ·rw[if_pos h0,h0]
   ·rw[if_neg h0];by_cases h1:a%2=1
    ·rw[if_pos h1];refine(ih _ (Nat.div (Nat.succ n) 2) (a/2) (by show(n+1)/2<_;lia) (by show a/2<(n+1)/2;lia)).trans (congrArg (fun i=>some (g i)) ?_);show 2*(a/2)+1=a;lia
    ·rw[if_neg h1];refine(ih _ (Nat.div n 2) (a/2-1) (by show n/2<_;lia) (by show a/2-1<n/2;lia)).trans (congrArg (fun i=>some (g i)) ?_);show 2*(a/2-1)+1+1=a;lia
noncomputable def SK(a:Nat):List (Nat×Obj)→Option Obj
 |[]=>none
 |p::l=>mS (Nat.beq a p.1) (some p.2) (SK a l)
noncomputable def vA(L:List (Nat×Obj))(g:Nat→Obj)(a:Nat):Obj:=match SK a L with
 |some o=>o
 |none=>g a
theorem Vh:SK a L=some o→(a,o)∈L:=by
 induction L with
 |nil=>exact nn
 |cons q l ih=>exact fun h=>jh h (fun b e=>by rw[qt b,←qc e];exact .head _) fun _ e=>.tail _ (ih e)
theorem Gj(hn:n<2^f)(h:∀p∈L,T.get p.1=some p.2):absHeap T n life=absHeap (xr f (vA L fun i=>(T.get i).getD default) n) n life:=by
 unfold absHeap BT.list
 congr 2
 refine List.map_congr_left fun i hi=> ?_;rw[Vg f _ n i hn (List.mem_range.mp hi)];unfold vA;induction e:SK i L using qe with
 |some o=>rw[h _ (Vh e)]
 |none=>rfl
noncomputable def Gk:Env:={scope:=PySem.Challenge.pw_on0142_01.main.scope,locals:=mainNs,globals:=mainNs,cells:=[],code:=.ref 13,frame:=some 14}
noncomputable def q8:Code:=.body (behindTheImports PySem.Challenge.pw_on0142_01) Gk
noncomputable def ZN:=PySem.W.Fast.tw10110043849684766642
noncomputable def YA:=PySem.W.Fast.tw14364793385576792824
noncomputable def e(P:Params)(n:Str)(t:Tok)(v:Value):DictEntry:=⟨PyData.keyHash P n,.str n t,v⟩
noncomputable def dO(es:List DictEntry)(n:Nat):Obj:={cls:=.type "dict",data:=.dict es.toArray n}
noncomputable def tO(vs:List Value):Obj:={cls:=.type "tuple",data:=.seq vs.toArray 0}
noncomputable def cO:List Str→Nat→List Value
 |[],_=>[]
 |x::l,t=>.str x t::cO l (Nat.succ t)
noncomputable def kO(n:Str)(bases mro:List Value)(ns:Nat)(abq:List Value)(sl:Array (Option Value)):Obj:=
 {cls:=.type "type",data:=.cls {name:=n,bases:=bases,mro:=mro,ns:=ns,qualname:=n,hasDict:=true,slotNames:=[],subclasses:=abq,abstract:=false,collection:=none,hasDel:=false},slots:=sl}
noncomputable def SM(fd:FuncData):Obj:={cls:=.type "function",data:=.func fd}
noncomputable def jJ(v:Value):List DictEntry→List DictEntry
 |[]=>[]
 |x::l=>⟨x.hash,x.key,v⟩::l
noncomputable def sG:List (Nat×Nat)→List Value
 |[]=>[]
 |x::l=>.int x.1 0::.int 0 0::.ref x.2::sG l
noncomputable def Cd(d:Data):Option (Array Value):=match d with
 |.fields vs=>some vs
 |_=>none
noncomputable def YB(v:Value):Option Str:=match v with
 |.str q _=>some q
 |_=>none
noncomputable def vB(o:Option Obj):Option Str:=cD o fun o=>cD (Cd o.data) fun vs=>cD vs[1]? YB
noncomputable def KP(v:Value):Option Nat:=match v with
 |.ref c=>some c
 |_=>none
noncomputable def KQ(fd:FuncData):Nat:=(KP fd.code).getD 0
noncomputable def zK:List (Nat×Str):=rV.map fun f=>(KQ f.2.1,f.2.1.qualname)
noncomputable def vU{α:Type}(lo hi:Nat):List (Nat×α)→List (Nat×α)
 |[]=>[]
 |q::l=>mS (Nat.ble lo q.1) (mS (Nat.blt q.1 hi) (q::vU lo hi l) (vU lo hi l)) (vU lo hi l)
noncomputable def OC:Obj:={cls:=.none,dict:=none,data:=.fields #[]}
noncomputable def xu:Obj:={cls:=.type "code",dict:=none,data:=.fields #[.str "_law_kinds" 2259,.str "_law_kinds" 2260,.str "/claim/cut.py" 2261,.int 914 0,.int 1 0,.int 0 0,.int 0 0,.int 3 0,.ref 1260,.bool true,.int 181 0,.ref 1261,.none,.ref 1262,.ref 1263,.ref 1264,.int 2271 0,.int 914 0,.str "/claim/cut.py" 2272]}
noncomputable def YC:Obj:={cls:=.none,dict:=none,data:=.fields #[]}
noncomputable def YD:Obj:={cls:=.type "code",dict:=none,data:=.fields #[.str "law" 2274,.str "law" 2275,.str "/claim/cut.py" 2276,.int 942 0,.int 1 0,.int 0 0,.int 0 0,.int 3 0,.ref 1267,.bool true,.int 181 0,.ref 1268,.none,.ref 1269,.ref 1270,.ref 1271,.int 2285 0,.int 942 0,.str "/claim/cut.py" 2286]}
noncomputable def Ce:List (Nat×List Value):=[(23,cO ["+","-","*","/","%","**","==","!=","<",">","<=",">=","<=>","===","[]","[]=","<<",">>","!","~","+@","-@","&","|","^","=~","!~"] 230),
 (52,cO [""] 307),
 (72,[.none]),
 (130,[.none,.none,.bool false]),
 (150,[]),
 (151,[.none,.none,.none,.none,.ref 150,.none,.none,.bool false,.none]),
 (171,[.none]),
 (191,[.none]),
 (211,[.none,.bool false,.none,.none]),
 (259,[.int 12 258]),
 (338,[.int 6 703]),
 (353,cO [""] 727),
 (431,[.none,.none]),
 (453,[.none]),
 (496,[.none,.str "call" 931,.none]),
 (596,[]),
 (597,[]),
 (598,[]),
 (599,[]),
 (600,[]),
 (601,cO ["value"] 1077),
 (602,cO ["name"] 1080),
 (603,cO ["text"] 1083),
 (604,cO ["parts"] 1086),
 (605,cO ["items"] 1089),
 (606,cO ["pairs"] 1092),
 (607,cO ["first","last","open"] 1095),
 (608,cO ["value"] 1100),
 (609,cO ["name"] 1103),
 (610,cO ["name"] 1106),
 (611,cO ["name"] 1109),
 (612,cO ["scope","name"] 1112),
 (614,cO ["name"] 1116),
 (615,cO ["name"] 1119),
 (616,cO ["name"] 1122),
 (617,cO ["name"] 1125),
 (618,cO ["receiver","args"] 1128),
 (619,cO ["receiver","name"] 1132),
 (620,cO ["target"] 1136),
 (621,cO ["targets"] 1139),
 (622,cO ["target","value"] 1142),
 (623,cO ["targets","value"] 1146),
 (624,cO ["target","op","value"] 1150),
 (625,cO ["receiver","name","args","block","safe"] 1155),
 (626,cO ["name"] 1162),
 (627,cO ["params","body"] 1165),
 (628,cO ["value"] 1169),
 (629,cO ["left","right"] 1172),
 (630,cO ["left","right"] 1176),
 (632,cO ["value"] 1180),
 (633,cO ["args","block"] 1183),
 (634,cO ["args"] 1187),
 (635,cO ["params","body"] 1190),
 (636,cO ["value"] 1194),
 (637,cO ["items"] 1197),
 (638,cO ["test","yes","no"] 1200),
 (639,cO ["test","body","negate"] 1205),
 (640,cO ["subject","whens","other"] 1210),
 (641,cO ["subject","arms","other"] 1215),
 (642,cO ["value","pattern"] 1220),
 (643,cO ["value","pattern"] 1224),
 (644,cO ["body","rescues","other","ensure"] 1228),
 (645,cO ["value"] 1234),
 (646,cO ["value"] 1237),
 (647,cO ["value"] 1240),
 (648,cO ["singleton","name","params","body"] 1243),
 (650,cO ["name","superclass","body"] 1249),
 (651,cO ["name","body"] 1253),
 (652,cO ["value","body"] 1256),
 (653,cO ["new","old"] 1259),
 (654,cO ["name"] 1262),
 (655,cO ["value"] 1264),
 (656,cO ["name"] 1266),
 (657,cO ["value"] 1268),
 (658,cO ["patterns"] 1270),
 (659,cO ["pattern","name"] 1272),
 (660,cO ["const","pre","rest","post"] 1275),
 (661,cO ["const","pairs","rest"] 1280),
 (669,[]),
 (670,[.ref 669,.int 0 1308]),
 (846,cO ["Kernel","Comparable","Enumerable"] 1564),
 (851,cO ["Kernel"] 1686),
 (852,cO ["Comparable"] 1688),
 (853,cO ["Comparable"] 1690),
 (854,cO ["Comparable"] 1692),
 (855,cO ["Enumerable"] 1694),
 (856,cO ["Enumerable"] 1696),
 (857,cO ["Enumerable"] 1698),
 (866,[.none,.none,.int 20000 1726]),
 (928,[.none,.none,.none])]
noncomputable def Gl(P:Params):List (Nat×List DictEntry×Nat):=[(61,[e P "__module__" 302 (.str "gemrows.things" 194),e P "__firstlineno__" 306 (.int 17 305),e P "__init__" 317 (.ref 59),e P "__static_attributes__" 319 (.ref 60),e P "__doc__" 320 .none],2),
 (81,[e P "__module__" 330 (.str "gemrows.things" 194),e P "__firstlineno__" 334 (.int 22 333),e P "__init__" 344 (.ref 79),e P "__static_attributes__" 346 (.ref 80),e P "__doc__" 347 .none],2),
 (119,[e P "__module__" 357 (.str "gemrows.things" 194),e P "__firstlineno__" 361 (.int 27 360),e P "__init__" 370 (.ref 98),e P "put" 379 (.ref 105),e P "row" 387 (.ref 112),e P "pairs" 393 (.ref 117),e P "__static_attributes__" 396 (.ref 118),e P "__doc__" 397 .none],2),
 (139,[e P "__module__" 407 (.str "gemrows.things" 194),e P "__firstlineno__" 411 (.int 42 410),e P "__init__" 423 (.ref 137),e P "__static_attributes__" 427 (.ref 138),e P "__doc__" 428 .none],2),
 (180,[e P "__module__" 481 (.str "gemrows.things" 194),e P "__firstlineno__" 485 (.int 62 484),e P "__init__" 495 (.ref 178),e P "__static_attributes__" 498 (.ref 179),e P "__doc__" 499 .none],2),
 (227,[e P "__module__" 539 (.str "gemrows.things" 194),e P "__firstlineno__" 543 (.int 76 542),e P "__init__" 556 (.ref 218),e P "is_own" 563 (.ref 225),e P "__static_attributes__" 575 (.ref 226),e P "__doc__" 576 .none],2),
 (440,[e P "__module__" 828 (.str "gemrows.walk" 809),e P "__firstlineno__" 832 (.int 239 831),e P "__init__" 842 (.ref 438),e P "__static_attributes__" 846 (.ref 439),e P "__dict__" 848 (.ref 442),e P "__weakref__" 850 (.ref 443),e P "__doc__" 851 .none],4),
 (462,[e P "__module__" 861 (.str "gemrows.walk" 809),e P "__firstlineno__" 865 (.int 245 864),e P "__init__" 876 (.ref 460),e P "__static_attributes__" 884 (.ref 461),e P "__dict__" 886 (.ref 464),e P "__weakref__" 888 (.ref 465),e P "__doc__" 889 .none],4),
 (561,[e P "__module__" 899 (.str "gemrows.walk" 809),e P "__firstlineno__" 903 (.int 255 902),e P "__init__" 913 (.ref 481),e P "enter" 921 (.ref 488),e P "go" 930 (.ref 495),e P "send" 944 (.ref 503),e P "done" 952 (.ref 510),e P "leave" 960 (.ref 517),e P "deliver" 968 (.ref 524),e P "going" 976 (.ref 531),e P "raise_error" 984 (.ref 538),e P "fail" 993 (.ref 545),e P "step" 1004 (.ref 552),e P "run" 1011 (.ref 559),e P "__static_attributes__" 1018 (.ref 560),e P "__dict__" 1020 (.ref 563),e P "__weakref__" 1022 (.ref 564),e P "__doc__" 1023 .none],4),
 (595,[e P "nil" 1066 (.ref 596),e P "true" 1068 (.ref 597),e P "false" 1070 (.ref 598),e P "self" 1072 (.ref 599),e P "retry" 1074 (.ref 600),e P "int" 1076 (.ref 601),e P "sym" 1079 (.ref 602),e P "str" 1082 (.ref 603),e P "dstr" 1085 (.ref 604),e P "array" 1088 (.ref 605),e P "hash" 1091 (.ref 606),e P "range" 1094 (.ref 607),e P "splat" 1099 (.ref 608),e P "lvar" 1102 (.ref 609),e P "ivar" 1105 (.ref 610),e P "gvar" 1108 (.ref 611),e P "const" 1111 (.ref 612),e P "t_local" 1115 (.ref 614),e P "t_ivar" 1118 (.ref 615),e P "t_gvar" 1121 (.ref 616),e P "t_const" 1124 (.ref 617),e P "t_index" 1127 (.ref 618),e P "t_attr" 1131 (.ref 619),e P "t_splat" 1135 (.ref 620),e P "t_group" 1138 (.ref 621),e P "assign" 1141 (.ref 622),e P "masgn" 1145 (.ref 623),e P "opasgn" 1149 (.ref 624),e P "call" 1154 (.ref 625),e P "vcall" 1161 (.ref 626),e P "block" 1164 (.ref 627),e P "blockpass" 1168 (.ref 628),e P "and" 1171 (.ref 629),e P "or" 1175 (.ref 630),e P "not" 1179 (.ref 632),e P "super" 1182 (.ref 633),e P "yield" 1186 (.ref 634),e P "lambda" 1189 (.ref 635),e P "defined" 1193 (.ref 636),e P "seq" 1196 (.ref 637),e P "if" 1199 (.ref 638),e P "while" 1204 (.ref 639),e P "case" 1209 (.ref 640),e P "casein" 1214 (.ref 641),e P "matchp" 1219 (.ref 642),e P "matchq" 1223 (.ref 643),e P "begin" 1227 (.ref 644),e P "break" 1233 (.ref 645),e P "next" 1236 (.ref 646),e P "return" 1239 (.ref 647),e P "def" 1242 (.ref 648),e P "class" 1248 (.ref 650),e P "module" 1252 (.ref 651),e P "sclass" 1255 (.ref 652),e P "alias" 1258 (.ref 653),e P "undef" 1261 (.ref 654),e P "p_value" 1263 (.ref 655),e P "p_bind" 1265 (.ref 656),e P "p_pin" 1267 (.ref 657),e P "p_alt" 1269 (.ref 658),e P "p_as" 1271 (.ref 659),e P "p_array" 1274 (.ref 660),e P "p_hash" 1279 (.ref 661)],63),
 (686,[e P "__module__" 1303 (.str "gemrows.nodes" 1064),e P "__firstlineno__" 1307 (.int 342 1306),e P "__init__" 1318 (.ref 677),e P "part" 1326 (.ref 684),e P "__static_attributes__" 1331 (.ref 685),e P "__dict__" 1333 (.ref 688),e P "__weakref__" 1335 (.ref 689),e P "__doc__" 1336 .none],4),
 (707,[e P "__module__" 1348 (.str "gemrows.walkmatch" 1339),e P "__firstlineno__" 1352 (.int 355 1351),e P "__init__" 1360 (.ref 705),e P "__static_attributes__" 1365 (.ref 706),e P "__dict__" 1367 (.ref 709),e P "__weakref__" 1369 (.ref 710),e P "__doc__" 1370 .none],4),
 (763,[e P "__module__" 1431 (.str "gemrows.walkflow" 1422),e P "__firstlineno__" 1435 (.int 394 1434),e P "__init__" 1443 (.ref 761),e P "__static_attributes__" 1448 (.ref 762),e P "__dict__" 1450 (.ref 765),e P "__weakref__" 1452 (.ref 766),e P "__doc__" 1453 .none],4),
 (847,[e P "BasicObject" 1568 .none,e P "Object" 1570 (.str "BasicObject" 1571),e P "Module" 1573 (.str "Object" 1574),e P "Class" 1576 (.str "Module" 1577),e P "Kernel" 1579 .none,e P "Comparable" 1581 .none,e P "Enumerable" 1583 .none,e P "NilClass" 1585 (.str "Object" 1586),e P "TrueClass" 1588 (.str "Object" 1589),e P "FalseClass" 1591 (.str "Object" 1592),e P "Numeric" 1594 (.str "Object" 1595),e P "Integer" 1597 (.str "Numeric" 1598),e P "String" 1600 (.str "Object" 1601),e P "Symbol" 1603 (.str "Object" 1604),e P "Array" 1606 (.str "Object" 1607),e P "Hash" 1609 (.str "Object" 1610),e P "Range" 1612 (.str "Object" 1613),e P "Proc" 1615 (.str "Object" 1616),e P "Fiber" 1618 (.str "Object" 1619),e P "Exception" 1621 (.str "Object" 1622),e P "ScriptError" 1624 (.str "Exception" 1625),e P "NotImplementedError" 1627 (.str "ScriptError" 1628),e P "SystemStackError" 1630 (.str "Exception" 1631),e P "StandardError" 1633 (.str "Exception" 1634),e P "ArgumentError" 1636 (.str "StandardError" 1637),e P "UncaughtThrowError" 1639 (.str "ArgumentError" 1640),e P "FiberError" 1642 (.str "StandardError" 1643),e P "IndexError" 1645 (.str "StandardError" 1646),e P "KeyError" 1648 (.str "IndexError" 1649),e P "StopIteration" 1651 (.str "IndexError" 1652),e P "LocalJumpError" 1654 (.str "StandardError" 1655),e P "NameError" 1657 (.str "StandardError" 1658),e P "NoMethodError" 1660 (.str "NameError" 1661),e P "NoMatchingPatternError" 1663 (.str "StandardError" 1664),e P "NoMatchingPatternKeyError" 1666 (.str "NoMatchingPatternError" 1667),e P "RangeError" 1668 (.str "StandardError" 1669),e P "RuntimeError" 1670 (.str "StandardError" 1671),e P "FrozenError" 1672 (.str "RuntimeError" 1673),e P "TypeError" 1674 (.str "StandardError" 1675),e P "ZeroDivisionError" 1676 (.str "StandardError" 1677)],40),
 (850,[e P "Object" 1685 (.ref 851),e P "Numeric" 1687 (.ref 852),e P "String" 1689 (.ref 853),e P "Symbol" 1691 (.ref 854),e P "Array" 1693 (.ref 855),e P "Hash" 1695 (.ref 856),e P "Range" 1697 (.ref 857)],7),
 (1110,[e P "__module__" 1721 (.str "gemrows.world" 1562),e P "__firstlineno__" 1725 (.int 528 1724),e P "__init__" 1738 (.ref 873),e P "tick" 1745 (.ref 880),e P "write" 1753 (.ref 887),e P "number" 1760 (.ref 894),e P "next_ident" 1767 (.ref 901),e P "ident" 1776 (.ref 908),e P "builtin" 1785 (.ref 915),e P "make_builtin" 1791 (.ref 920),e P "give_own" 1799 (.ref 927),e P "new_module" 1814 (.ref 935),e P "class_of" 1822 (.ref 942),e P "own_of" 1830 (.ref 949),e P "own_behind" 1838 (.ref 956),e P "root_of" 1846 (.ref 963),e P "real_class" 1854 (.ref 970),e P "text" 1862 (.ref 977),e P "list_of" 1870 (.ref 984),e P "table_of" 1878 (.ref 991),e P "key_of" 1886 (.ref 998),e P "range_of" 1896 (.ref 1005),e P "proc" 1913 (.ref 1012),e P "thing" 1923 (.ref 1019),e P "is_error_class" 1931 (.ref 1026),e P "spread" 1937 (.ref 1031),e P "error" 1946 (.ref 1038),e P "fail" 1955 (.ref 1045),e P "need_thawed" 1963 (.ref 1052),e P "set_field" 1973 (.ref 1059),e P "describe" 1981 (.ref 1066),e P "own_constant" 1990 (.ref 1073),e P "find_constant" 1999 (.ref 1080),e P "constant" 2008 (.ref 1087),e P "find_in" 2017 (.ref 1094),e P "constant_in" 2026 (.ref 1101),e P "set_constant" 2036 (.ref 1108),e P "__static_attributes__" 2052 (.ref 1109),e P "__dict__" 2054 (.ref 1112),e P "__weakref__" 2056 (.ref 1113),e P "__doc__" 2057 .none],4)]
noncomputable def YE(P:Params):List (Nat×Obj):=[(1,boot_o_1 P),
 (62,kO "Text" [.ref 40] [.ref 62,.ref 40,.type "object"] 61 [] #[some (.ref 45),none,some (.str "Text" 295),some (.str "Text" 303),some (.builtin "object.__new__"),some (.bool true)]),
 (82,kO "ListThing" [.ref 40] [.ref 82,.ref 40,.type "object"] 81 [] #[some (.ref 65),none,some (.str "ListThing" 323),some (.str "ListThing" 331),some (.builtin "object.__new__"),some (.bool true)]),
 (120,kO "TableThing" [.ref 40] [.ref 120,.ref 40,.type "object"] 119 [] #[some (.ref 85),none,some (.str "TableThing" 350),some (.str "TableThing" 358),some (.builtin "object.__new__"),some (.bool true)]),
 (140,kO "RangeThing" [.ref 40] [.ref 140,.ref 40,.type "object"] 139 [] #[some (.ref 123),none,some (.str "RangeThing" 400),some (.str "RangeThing" 408),some (.builtin "object.__new__"),some (.bool true)]),
 (181,kO "ErrorThing" [.ref 40] [.ref 181,.ref 40,.type "object"] 180 [] #[some (.ref 164),none,some (.str "ErrorThing" 474),some (.str "ErrorThing" 482),some (.builtin "object.__new__"),some (.bool true)]),
 (228,kO "ModuleThing" [.ref 40] [.ref 228,.ref 40,.type "object"] 227 [] #[some (.ref 204),none,some (.str "ModuleThing" 532),some (.str "ModuleThing" 540),some (.builtin "object.__new__"),some (.bool true)]),
 (441,kO "Way" [.type "object"] [.ref 441,.type "object"] 440 [] #[none,none,some (.str "Way" 821),some (.str "Way" 829),some (.builtin "object.__new__"),some (.bool true)]),
 (463,kO "Task" [.type "object"] [.ref 463,.type "object"] 462 [] #[none,none,some (.str "Task" 854),some (.str "Task" 862),some (.builtin "object.__new__"),some (.bool true)]),
 (562,kO "Walker" [.type "object"] [.ref 562,.type "object"] 561 [] #[none,none,some (.str "Walker" 892),some (.str "Walker" 900),some (.builtin "object.__new__"),some (.bool true)]),
 (687,kO "Node" [.type "object"] [.ref 687,.type "object"] 686 [] #[none,none,some (.str "Node" 1296),some (.str "Node" 1304),some (.builtin "object.__new__"),some (.bool true)]),
 (708,kO "Match" [.type "object"] [.ref 708,.type "object"] 707 [] #[none,none,some (.str "Match" 1341),some (.str "Match" 1349),some (.builtin "object.__new__"),some (.bool true)]),
 (764,kO "Choice" [.type "object"] [.ref 764,.type "object"] 763 [] #[none,none,some (.str "Choice" 1424),some (.str "Choice" 1432),some (.builtin "object.__new__"),some (.bool true)]),
 (1111,kO "World" [.type "object"] [.ref 1111,.type "object"] 1110 [] #[none,none,some (.str "World" 1714),some (.str "World" 1722),some (.builtin "object.__new__"),some (.bool true)]),
 (1261,OC),
 (1265,xu),
 (1268,YC),
 (1272,YD)]
noncomputable def YF(P:Params):List (Nat×Obj):=Ce.map (fun q=>(q.1,tO q.2))++((Gl P).map (fun q=>(q.1,dO q.2.1 q.2.2))++YE P)
noncomputable def Cf(P:Params):List (Nat×Obj):=rV.map (fun f=>(f.1,SM f.2.1))++YF P
noncomputable def GL(P:Params):List DictEntry:=[e P "__name__" 165 (.str "law_on0142_01" 2060),e P "__doc__" 166 .none,e P "__package__" 167 .none,e P "__loader__" 168 (.builtin "__main__.__loader__#opaque"),e P "__spec__" 169 .none,e P "__annotations__" 170 (.ref 6),e P "__builtins__" 171 (.ref 4),e P "__file__" 173 (.str "/claim/cut.py" 172),e P "__cached__" 174 .none,e P "_wall" 193 (.ref 21),e P "SIMPLE_ESCAPES" 229 (.ref 22),e P "OPERATORS" 257 (.ref 23),e P "DEEPEST_KEY" 259 (.int 12 258),e P "Thing" 294 (.ref 40),e P "Text" 322 (.ref 62),e P "ListThing" 349 (.ref 82),e P "TableThing" 399 (.ref 120),e P "RangeThing" 430 (.ref 140),e P "ProcThing" 473 (.ref 161),e P "ErrorThing" 501 (.ref 181),e P "FiberThing" 531 (.ref 201),e P "ModuleThing" 578 (.ref 228),e P "is_int" 585 (.ref 237),e P "truth" 592 (.ref 244),e P "sort_of" 599 (.ref 251),e P "same" 608 (.ref 258),e P "code_of" 614 (.ref 264),e P "is_word" 622 (.ref 271),e P "is_label" 629 (.ref 278),e P "is_plain_symbol" 636 (.ref 285),e P "full_name" 643 (.ref 292),e P "show_letter" 653 (.ref 299),e P "show_text" 659 (.ref 304),e P "show_symbol" 666 (.ref 311),e P "show_pair" 675 (.ref 318),e P "show_range" 685 (.ref 325),e P "show_thing" 691 (.ref 330),e P "show_error" 702 (.ref 337),e P "show" 712 (.ref 345),e P "GemError" 742 (.ref 363),e P "BadArgument" 758 (.ref 376),e P "StepsOver" 783 (.ref 395),e P "Raised" 808 (.ref 414),e P "give_cause" 820 (.ref 423),e P "Way" 853 (.ref 441),e P "Task" 891 (.ref 463),e P "Walker" 1025 (.ref 562),e P "do_nil" 1034 (.ref 573),e P "do_values" 1044 (.ref 580),e P "do_array" 1053 (.ref 587),e P "do_seq" 1063 (.ref 594),e P "FIELDS" 1295 (.ref 595),e P "Node" 1338 (.ref 687),e P "Match" 1372 (.ref 708),e P "enter_pattern" 1383 (.ref 719),e P "bind_local" 1393 (.ref 726),e P "p_value" 1402 (.ref 733),e P "p_bind" 1411 (.ref 740),e P "p_alt" 1421 (.ref 747),e P "Choice" 1455 (.ref 764),e P "case" 1464 (.ref 775),e P "ask_test" 1475 (.ref 782),e P "ask_value" 1485 (.ref 789),e P "case_body" 1494 (.ref 796),e P "casein" 1506 (.ref 803),e P "next_arm" 1514 (.ref 810),e P "match_arm" 1525 (.ref 817),e P "matchp" 1534 (.ref 824),e P "matchq" 1543 (.ref 831),e P "raise_version" 1552 (.ref 838),e P "own_module" 1561 (.ref 845),e P "MODULES" 1567 (.ref 846),e P "BUILTINS" 1684 (.ref 847),e P "MIXED" 1706 (.ref 850),e P "UNMADE" 1713 (.ref 858),e P "World" 2059 (.ref 1111),e P "_law_bag" 2067 (.ref 1120),e P "_law_take" 2078 (.ref 1127),e P "_law_value" 2088 (.ref 1134),e P "_law_other" 2096 (.ref 1141),e P "_law_leaf" 2104 (.ref 1148),e P "_law_test" 2110 (.ref 1153),e P "_law_whens" 2116 (.ref 1158),e P "_law_pattern" 2122 (.ref 1163),e P "_law_arms" 2134 (.ref 1170),e P "_law_node" 2140 (.ref 1175),e P "_law_weight" 2147 (.ref 1182),e P "_law_asked" 2156 (.ref 1189),e P "_law_holds" 2163 (.ref 1196),e P "_law_guard" 2171 (.ref 1203),e P "_law_read" 2181 (.ref 1210),e P "_law_all" 2192 (.ref 1217),e P "_law_tested" 2201 (.ref 1224),e P "_law_case" 2217 (.ref 1231),e P "_law_fits" 2228 (.ref 1238),e P "_law_words" 2235 (.ref 1245),e P "_law_one" 2245 (.ref 1252),e P "_law_arm" 2258 (.ref 1259),e P "_law_kinds" 2273 (.ref 1266),e P "law" 2287 (.ref 1273)]
noncomputable def FL:List (Nat×Nat):=[(1,20),(8,29),(17,50),(22,70),(27,90),(42,128),(49,148),(62,169),(68,189),(76,209),(94,236),(96,243),(100,250),(108,257),(113,263),(124,270),(131,277),(133,284),(141,291),(149,298),(159,303),(162,310),(164,317),(168,324),(172,329),(193,336),(199,344),(211,351),(216,372),(218,384),(223,403),(229,422),(239,429),(245,451),(255,473),(314,572),(316,579),(328,586),(333,593),(342,667),(355,697),(362,718),(366,725),(368,732),(377,739),(383,746),(394,753),(401,774),(418,781),(430,788),(443,795),(449,802),(472,809),(475,816),(484,823),(493,830),(506,837),(508,844),(528,864),(731,1119),(737,1126),(746,1133),(759,1140),(761,1147),(766,1152),(773,1157),(779,1162),(786,1169),(792,1174),(816,1181),(818,1188),(823,1195),(825,1202),(828,1209),(845,1216),(853,1223),(860,1230),(879,1237),(893,1244),(897,1251),(902,1258),(914,1265),(942,1272)]
noncomputable def yY:Obj:={cls:=.type "code",dict:=none,data:=.fields #[.str "<module>" 182,.str "<module>" 183,.str "/claim/cut.py" 184,.int 1 0,.int 0 0,.int 0 0,.int 0 0,.int 0 0,.ref 11,.bool false,.int 181 0,.ref 12,.none,.none,.none,.none,.int 185 0,.int 1 0,.str "/claim/cut.py" 186]}
noncomputable def xw(n:Nat):Obj:=kO "Thing" [.type "object"] [.ref 40,.type "object"] 39 ([.ref 62,.ref 82,.ref 120,.ref 140,.ref 161,.ref 181,.ref 201,.ref 228].take n) #[none,none,some (.str "Thing" 260),some (.str "Thing" 268),some (.builtin "object.__new__"),some (.bool true)]
noncomputable def vC(n:Nat):Obj:=kO "GemError" [.type "ValueError"] [.ref 363,.type "ValueError",.type "Exception",.type "BaseException",.type "object"] 362 ([.ref 376,.ref 395,.ref 414].take n) #[some (.ref 346),none,some (.str "GemError" 715),some (.str "GemError" 723),some (.builtin "ValueError.__new__"),some (.bool true)]
noncomputable def xy(P:Params):Obj:=dO [e P "__module__" 267 (.str "gemrows.things" 194),e P "__firstlineno__" 271 (.int 8 270),e P "__init__" 280 (.ref 37),e P "__static_attributes__" 287 (.ref 38),e P "__dict__" 289 (.ref 41),e P "__weakref__" 291 (.ref 42),e P "__doc__" 292 .none] 4
noncomputable def vD(P:Params):Obj:=dO [e P "__module__" 722 (.str "gemrows.errors" 713),e P "__firstlineno__" 726 (.int 211 725),e P "__init__" 735 (.ref 360),e P "__static_attributes__" 737 (.ref 361),e P "__weakref__" 739 (.ref 364),e P "__doc__" 740 .none] 3
set_option genInjectivity false in
structure Cut where
 n:Nat
 toks:Nat
 pos:Pos
 L:Params→List (Nat×Obj)
noncomputable def vE:Cut:=⟨15,187,⟨0,0,0,0⟩,fun P=>[(3,dO (jJ (.str "__main__" 164) ((GL P).take 9)) 9),(12,{cls:=.none,data:=.fields (sG (FL.take 0)).toArray}),(13,yY),(0,boot_o_0 P),(2,boot_o_2 P),(4,boot_o_4 P)]⟩
noncomputable def YG:Cut:=⟨23,230,⟨5,0,5,14⟩,fun P=>[(3,dO (jJ (.str "gemrows.things" 194) ((GL P).take 11)) 11),(12,{cls:=.none,data:=.fields (sG (FL.take 1)).toArray}),(13,yY),(0,boot_o_0 P),(2,boot_o_2 P),(4,boot_o_4 P)]⟩
noncomputable def YH:Cut:=⟨143,431,⟨42,0,48,27⟩,fun P=>[(3,dO (jJ (.str "gemrows.things" 194) ((GL P).take 18)) 18),(12,{cls:=.none,data:=.fields (sG (FL.take 6)).toArray}),(39,xy P),(40,xw 4),(13,yY),(0,boot_o_0 P),(2,boot_o_2 P),(4,boot_o_4 P)]⟩
noncomputable def YI:Cut:=⟨379,759,⟨216,0,217,8⟩,fun P=>[(3,dO (jJ (.str "gemrows.errors" 713) ((GL P).take 41)) 41),(12,{cls:=.none,data:=.fields (sG (FL.take 29)).toArray}),(39,xy P),(40,xw 8),(362,vD P),(363,vC 1),(13,yY),(0,boot_o_0 P),(2,boot_o_2 P),(4,boot_o_4 P)]⟩
noncomputable def YJ:Cut:=⟨595,1066,⟨340,0,340,8⟩,fun P=>[(3,dO (jJ (.str "gemrows.nodes" 1064) ((GL P).take 51)) 51),(12,{cls:=.none,data:=.fields (sG (FL.take 39)).toArray}),(39,xy P),(40,xw 8),(362,vD P),(363,vC 3),(13,yY),(0,boot_o_0 P),(2,boot_o_2 P),(4,boot_o_4 P)]⟩
noncomputable def YK:Cut:=⟨662,1296,⟨341,0,341,6⟩,fun P=>[(3,dO (jJ (.str "gemrows.nodes" 1064) ((GL P).take 52)) 52),(12,{cls:=.none,data:=.fields (sG (FL.take 39)).toArray}),(39,xy P),(40,xw 8),(362,vD P),(363,vC 3),(13,yY),(0,boot_o_0 P),(2,boot_o_2 P),(4,boot_o_4 P)]⟩
noncomputable def YL:Cut:=⟨847,1568,⟨524,0,524,7⟩,fun P=>[(3,dO (jJ (.str "gemrows.world" 1562) ((GL P).take 72)) 72),(12,{cls:=.none,data:=.fields (sG (FL.take 58)).toArray}),(39,xy P),(40,xw 8),(362,vD P),(363,vC 3),(13,yY),(0,boot_o_0 P),(2,boot_o_2 P),(4,boot_o_4 P)]⟩
noncomputable def YM:Cut:=⟨858,1707,⟨526,0,526,5⟩,fun P=>[(3,dO (jJ (.str "gemrows.world" 1562) ((GL P).take 74)) 74),(12,{cls:=.none,data:=.fields (sG (FL.take 58)).toArray}),(39,xy P),(40,xw 8),(362,vD P),(363,vC 3),(13,yY),(0,boot_o_0 P),(2,boot_o_2 P),(4,boot_o_4 P)]⟩
noncomputable def YN:Cut:=⟨1116,2060,⟨528,0,729,17⟩,fun P=>[(3,dO (jJ (.str "gemrows.world" 1562) ((GL P).take 76)) 76),(12,{cls:=.none,data:=.fields (sG (FL.take 59)).toArray}),(39,xy P),(40,xw 8),(362,vD P),(363,vC 3),(13,yY),(0,boot_o_0 P),(2,boot_o_2 P),(4,boot_o_4 P)]⟩
noncomputable def gD:Cut:=⟨1274,2288,⟨942,0,951,118⟩,fun P=>[(3,dO (jJ (.str "law_on0142_01" 2060) ((GL P).take 100)) 100),(12,{cls:=.none,data:=.fields (sG (FL.take 83)).toArray}),(39,xy P),(40,xw 8),(362,vD P),(363,vC 3),(13,yY),(0,boot_o_0 P),(2,boot_o_2 P),(4,boot_o_4 P)]⟩
noncomputable def SN(r:Option (Flow×SharedT×Code×Pos))(ks cs:List Nat):Option (Flow×Code×Nat×Nat×Pos×Life×Array GenState×Drawn×OsState×List (Option Obj)×List (Option Str)):=match r with
 |some (f,s,c,p)=>some (f,c,s.n,s.toks,p,s.life,s.gens,s.drawn,s.os,ks.map fun a=>s.tree.get a,cs.map fun c=>vB (s.tree.get c))
 |none=>none
noncomputable def SO(i n:Nat):List Stmt:=(wG.drop i).take n
noncomputable def QV(P:Params)(n:Nat):List Nat:=(vU 0 n (Cf P)).map (·.1)++(vU 0 n zK).map (·.1)
def nZ(w:World)(b:Bool)(i n:Nat)(c c':Cut):Prop:=∀(os:OsState) (g:Nat→Obj),
 SN (ZN YA PySem.Challenge.pw_on0142_01 (w.withFollow "special-get-raises" b) 11 (some (.ref 6)) 1 5000 ⟨xr 12 (vA (c.L w.params) g) c.n,c.n,{}, #[],boot_drawn,c.toks,os⟩ (piecesOf (SO i n) Gk q8 c.pos [topFrame ⟨0,0,0,0⟩]))
  ((c'.L w.params).map (·.1)++((vU c.n c'.n (Cf w.params)).map (·.1)++QV w.params c.n)) ((vU c.n c'.n zK).map (·.1))=
 some (.next,q8,c'.n,c'.toks,c'.pos,{}, #[],boot_drawn,os,(c'.L w.params).map (fun q=>some q.2)++((vU c.n c'.n (Cf w.params)).map (fun q=>some q.2)++(QV w.params c.n).map (fun a=>some (g a))),
  (vU c.n c'.n zK).map fun q=>some q.2)
theorem b0(w:World)(b:Bool):nZ w b 0 3 vE YG:=fun os g=>by cases b<;>kernel_rfl
theorem b1(w:World)(b:Bool):nZ w b 3 7 YG YH:=fun os g=>⋯
theorem b2(w:World)(b:Bool):nZ w b 10 24 YH YI:=fun os g=>⋯
theorem b3(w:World)(b:Bool):nZ w b 34 12 YI YJ:=fun os g=>⋯
theorem b4(w:World)(b:Bool):nZ w b 46 1 YJ YK:=fun os g=>by cases b<;>kernel_rfl
theorem b5(w:World)(b:Bool):nZ w b 47 24 YK YL:=fun os g=>⋯
theorem b6(w:World)(b:Bool):nZ w b 71 2 YL YM:=fun os g=>by cases b<;>kernel_rfl
theorem b7(w:World)(b:Bool):nZ w b 73 2 YM YN:=fun os g=>⋯
theorem b8(w:World)(b:Bool):nZ w b 75 25 YN gD:=fun os g=>⋯
theorem Gm{α:Type}{b:Bool}{q:α}{x y:List α}(h1:q∈x)(h2:q∈y):q∈mS b x y:=by induction b using qd with|true=>exact h1|false=>exact h2
theorem rA{α:Type}{lo hi:Nat}{q:Nat×α}{l:List (Nat×α)}:q∈l→lo≤q.1→q.1<hi→q∈vU lo hi l:=by
 induction l with
 |nil=>exact fun h=>nomatch h
 |cons p l ih=>
  intro h h1 h2;rcases List.mem_cons.mp h with h|h
  ·rw[←h];show _∈mS (Nat.ble lo q.1) (mS (Nat.blt q.1 hi) _ _) _;rw[Nat.ble_eq_true_of_le h1,Nat.blt_eq.mpr h2];exact .head _
  ·exact Gm (Gm (.tail _ (ih h h1 h2)) (ih h h1 h2)) (ih h h1 h2)
theorem vF{α β:Type}{f:α→Option β}{L:List (α×β)}:(L.map (·.1)).map f=L.map (fun q=>some q.2)→∀p∈L,f p.1=some p.2:=by
 induction L with
 |nil=>exact fun _ _ h=>nomatch h
 |cons q L ih=>
  intro e p hp;obtain⟨e1,e2⟩:=List.cons.inj e;rcases List.mem_cons.mp hp with z|hp
  ·rw[z];exact e1
  ·exact ih e2 p hp
theorem Dk{α β:Type}{f:α→β}{a b:List α}{c d:List β}(hl:a.length=c.length)(h:(a++b).map f=c++d):a.map f=c∧b.map f=d:=by
 rw[List.map_append]at h;exact List.append_inj h (by simpa using hl)
theorem QW{pos:Pos}{os:OsState}{vals:List (Option Obj)}{qs:List (Option Str)}
  (h:SN r ks cs=some (.next,c,n,toks,pos,{}, #[],boot_drawn,os,vals,qs)):
  ∃T:BT,r=some (.next,⟨T,n,{}, #[],boot_drawn,toks,os⟩,c,pos)∧ks.map (fun a=>T.get a)=vals∧cs.map (fun c=>vB (T.get c))=qs:=by
 rcases r with _|⟨f,⟨T,n',life,gens,drawn,ZO,os'⟩,c',p⟩
 ·exact nn h
 ·replace h:=qc h;injection h with e1 h;injection h with e2 h;injection h with e3 h;injection h with e4 h;injection h with e5 h;injection h with e6 h;injection h with e7 h;injection h with e8 h;injection h with e9 h;injection h with h1 h2;have e3:n'=n:=e3;have e4:ZO=toks:=e4;have e6:life={}:=e6;have e7:gens= #[]:=e7;have e8:drawn=boot_drawn:=e8;have e9:os'=os:=e9;exact⟨T,by rw[e1,e2,e3,e4,e5,e6,e7,e8,e9],h1,h2⟩
structure Known (c:Cut) (P:Params) (T:BT):Prop where
 l:∀p∈c.L P,T.get p.1=some p.2
 o:∀p∈Cf P,p.1<c.n→T.get p.1=some p.2
 q:∀p∈zK,p.1<c.n→vB (T.get p.1)=some p.2
theorem Bf(h:vB o=some x):∃ob,o=some ob:=by
 induction o using qe with
 |none=>exact nn h
 |some ob=>exact⟨ob,rfl⟩
noncomputable def g6(T:BT)(c:Cut)(os:OsState):Shared:=(SharedT.mk T c.n {} #[] boot_drawn c.toks os).abs
noncomputable def yj(w:World)(N:Nat)(s:Shared)(t:Thread):Option Shared:=topRun treeTable PySem.Challenge.pw_on0142_01 w 11 (some (.ref 6)) N s t
noncomputable def uG(i:Nat)(c:Cut):Thread:=restOf (wG.drop i) Gk q8 c.pos [topFrame ⟨0,0,0,0⟩]
theorem jX{c c':Cut}(h:∀b,nZ w b i n c c')(hn:c.n<2^12){T:BT}(K:Known c w.params T)(os:OsState):
  ∃T':BT,Known c' w.params T'∧∀{N:Nat} {r:Shared},yj w N (g6 T' c' os) (uG (i+n) c')=some r→yj w (5000+N) (g6 T c os) (uG i c)=some r:=by
 have hb:=h (w.params.followText "special-get-raises");unfold nZ at hb;rw[World.withFollow_self w "special-get-raises"]at hb;obtain⟨T',h1,h2,h3⟩:=QW (hb os fun a=>(T.get a).getD default);obtain⟨e1,e2⟩:=Dk (by simp) h2;obtain⟨e3,e4⟩:=Dk (by simp) e2;have CC:∀a∈QV w.params c.n,T'.get a=some ((T.get a).getD default):=fun a ha=>List.map_inj_left.mp e4 a ha;refine⟨T',⟨vF e1,fun p hp hl=> ?_,fun p hp hl=> ?_⟩,fun{N r} k=> ?_⟩
 ·by_cases q:p.1<c.n
  ·rw[CC _ (List.mem_append.mpr (.inl (List.mem_map.mpr ⟨p,rA hp (qm _) q,rfl⟩))),K.o p hp q];rfl
  ·exact vF e3 p (rA hp (qA q) hl)
 ·by_cases q:p.1<c.n
  ·rw[CC _ (List.mem_append.mpr (.inr (List.mem_map.mpr ⟨p,rA hp (qm _) q,rfl⟩)))];have e:=K.q p hp q;obtain⟨ob,eo⟩:=Bf e;rw[eo]at e⊢;exact e
  ·exact vF (f:=fun c=>vB (T'.get c)) h3 p (rA hp (qA q) hl)
 ·have sg:segRunT treeTable PySem.Challenge.pw_on0142_01 w 11 (some (.ref 6)) 1 5000 ⟨xr 12 (vA (c.L w.params) fun a=>(T.get a).getD default) c.n,c.n,{}, #[],boot_drawn,c.toks,os⟩ (piecesOf (SO i n) Gk q8 c.pos [topFrame ⟨0,0,0,0⟩])=some (.next,⟨T',c'.n,{}, #[],boot_drawn,c'.toks,os⟩,q8,c'.pos):=by
   rw[PySem.W.Fast.te10110043849684766642,PySem.W.Fast.te14364793385576792824];exact h1
  have ab:g6 T c os=(SharedT.mk (xr 12 (vA (c.L w.params) fun a=>(T.get a).getD default) c.n) c.n {} #[] boot_drawn c.toks os).abs:=by
   show Shared.mk (absHeap T c.n {}) _ _ _ _=Shared.mk (absHeap _ c.n {}) _ _ _ _;rw[Gj hn K.l]
  have lr:wG.drop i=SO i n++wG.drop (i+n):=by
   unfold SO;rw[←List.drop_drop];exact(List.take_append_drop _ _).symm
  unfold yj uG;rw[ab,lr];exact piece_app (segRun_of sg) k
noncomputable def L0(P:Params):List (Nat×Obj):=vE.L P++[(1,boot_o_1 P),(5,boot_o_5 P),(6,boot_o_6 P),(7,boot_o_7 P),(8,boot_o_8 P),(9,boot_o_9 P),(10,boot_o_10 P),(11,tO []),
 (14,{cls:=.type "frame",data:=.plain,slots:= #[some (.ref 13),some (.ref 3),some (.ref 3),none,some (.str "__main__" 164),none,some (.ref 0)]})]
noncomputable def T0(P:Params):BT:=xr 12 (vA (L0 P) fun _=>default) 15
theorem YO(P:Params):Known vE P (T0 P):=by
 refine⟨?_, ?_, ?_⟩
 ·exact vF (f:=fun a=>(T0 P).get a) (L:=vE.L P) ⋯
 ·intro p hp hl;have:=rA hp (qm _) hl;rw[show vU 0 vE.n (Cf P)=[(1,boot_o_1 P)] by kernel_rfl]at this;rw[List.mem_singleton.mp this];have e:(T0 P).get 1=some (boot_o_1 P):=⋯;exact e
 ·intro p hp hl;have:=rA hp (qm _) hl;rw[show vU 0 vE.n zK=[] by kernel_rfl]at this;cases this
theorem YQ(w:World)(os:OsState):topGo treeTable PySem.Challenge.pw_on0142_01 w 11 (some (.ref 6)) 12 ⟨boot_heap w.params,Array.mk [],boot_drawn,boot_toks,os⟩ (topStub PySem.Challenge.pw_on0142_01)=
  some (g6 (T0 w.params) vE os,⟨denote treeTable q8,q8,⟨0,0,0,0⟩,[topFrame ⟨0,0,0,0⟩]⟩):=⋯
theorem YR(w:World)(os:OsState):segRun treeTable PySem.Challenge.pw_on0142_01 w 11 (some (.ref 6)) 1 1 (g6 (T0 w.params) vE os) (blockOf (behindTheImports PySem.Challenge.pw_on0142_01) Gk q8 ⟨0,0,0,0⟩ [topFrame ⟨0,0,0,0⟩])=
  some (.next,g6 (T0 w.params) vE os,q8,⟨0,0,0,0⟩):=⋯
theorem QX:wG.drop 100=[]:=⋯
theorem QY:behindTheImports PySem.Challenge.pw_on0142_01=wG.drop 0:=⋯
theorem YS(w:World)(s:Shared):yj w 3 s (uG 100 gD)=some s:=by
 unfold yj uG;rw[QX];kernel_rfl
theorem Vi(w:World)(os:OsState):∃T,Known gD w.params T∧topRun treeTable PySem.Challenge.pw_on0142_01 w 11 (some (.ref 6)) 50000 ⟨boot_heap w.params,Array.mk [],boot_drawn,boot_toks,os⟩ (topStub PySem.Challenge.pw_on0142_01)=some (g6 T gD os):=by
 have lt:∀{c:Cut},Nat.blt c.n 4096=true→c.n<2^12:=fun h=>Nat.blt_eq.mp h;obtain⟨T1,K1,k1⟩:=jX (b0 w) (lt ⋯) (YO w.params) os;obtain⟨T2,K2,k2⟩:=jX (b1 w) (lt ⋯) K1 os;obtain⟨T3,K3,k3⟩:=jX (b2 w) (lt ⋯) K2 os;obtain⟨T4,K4,k4⟩:=jX (b3 w) (lt ⋯) K3 os;obtain⟨T5,K5,k5⟩:=jX (b4 w) (lt ⋯) K4 os;obtain⟨T6,K6,k6⟩:=jX (b5 w) (lt ⋯) K5 os;obtain⟨T7,K7,k7⟩:=jX (b6 w) (lt ⋯) K6 os;obtain⟨T8,K8,k8⟩:=jX (b7 w) (lt ⋯) K7 os;obtain⟨T9,K9,k9⟩:=jX (b8 w) (lt ⋯) K8 os;refine⟨T9,K9, ?_⟩;have run:=k1 (k2 (k3 (k4 (k5 (k6 (k7 (k8 (k9 (YS w (g6 T9 gD os))))))))));unfold yj uG at run;rw[←QY]at run;have:=go_top (YQ w os) (piece_block (YR w os) run);exact topRun_mono 4984 _ _ _ _ this
noncomputable def Gn:Program:=view PySem.Challenge.pw_on0142_01 [99]
noncomputable def Bh:List Str:=PySem.Challenge.pw_on0142_01.boundNames.filter fun n=> !seq n "law"
noncomputable def Gp(P:Params):List (Nat×Obj):=gD.L P++Cf P
noncomputable def Gq(P:Params)(g:Nat→Obj):BT:=xr 12 (vA (Gp P) g) 1274
theorem ZP(P:Params):((boot_heap P).isNs mainGlobals&&(Array.mk ([]:List GenState)).size==0,(boot_heap P).objs.size,(boot_heap P).nsMap mainGlobals "__annotations__")=(true,11,some (.ref 6)):=⋯
theorem YT(P:Params)(os:OsState)(g:Nat→Obj):(staticsOk (importedModules PySem.Challenge.pw_on0142_01.main.body) (boot_heap P) (g6 (Gq P g) gD os).heap&&namesBound PySem.Challenge.pw_on0142_01 (g6 (Gq P g) gD os).heap&&
  gensDone (g6 (Gq P g) gD os)&&laidKept (boot_heap P) (g6 (Gq P g) gD os).heap)=true:=⋯
theorem YU(P:Params)(os:OsState)(g:Nat→Obj):openSeen Gn Bh (importedModules PySem.Challenge.pw_on0142_01.main.body) (fun _=>true) true (g6 (Gq P g) gD os)=openGood Gn Bh:=⋯
structure iP (P:Params) (h:Heap):Prop where
 l:∀q∈Gp P,h.get? q.1=some q.2
 q:∀c∈zK,∃o,h.get? c.1=some o∧vB (some o)=some c.2
theorem iP.mono(t:iP P h)(k:∀b o,h.get? b=some o→h'.get? b=some o):iP P h':=
 ⟨fun q hq=>k _ _ (t.l q hq),fun c hc=>(by obtain⟨o,e,r⟩:=t.q c hc;exact⟨o,k _ _ e,r⟩)⟩
noncomputable def KR(q:Nat×Obj):Bool:=match Nat.blt q.1 1274 with
 |true=>match q.2.data with
  |.freed=>false
  |_=>true
 |false=>false
theorem Cg(P:Params):(Gp P).all KR=true:=⋯
theorem YV:(zK.all fun q=>Nat.blt q.1 1274)=true:=⋯
theorem vG(h:KR q=true):q.1<1274∧alive q.2=some q.2:=by
 obtain⟨a,o⟩:=q;unfold KR at h
 split at h
 ·rename_i q1
  refine⟨Nat.blt_eq.mp q1, ?_⟩;obtain⟨c,d,dt,sl⟩:=o;induction dt using PySem.Data.casesOn<;>first|rfl|exact ft h
 ·exact ft h
theorem Vj{w:World}{T:BT}{os:OsState}(K:Known gD w.params T):iP w.params (g6 T gD os).heap:=by
 refine⟨fun q hq=> ?_,fun c hc=> ?_⟩
 ·obtain⟨h1,h2⟩:=vG (List.all_eq_true.mp (Cg w.params) q hq);rw[←h2];refine abs_get (n:=1274) h1 ?_;rcases List.mem_append.mp hq with hq|hq
  ·exact K.l q hq
  ·exact K.o q hq h1
 ·have h1:c.1<1274:=Nat.blt_eq.mp (List.all_eq_true.mp YV c hc);have e:=K.q c hc h1;obtain⟨o,eo⟩:=Bf e;have g:=abs_get (n:=1274) (life:={}) h1 eo;refine⟨o,g.trans ?_,eo▸e⟩;rw[eo]at e;obtain⟨cl,d,dt,sl⟩:=o;induction dt using PySem.Data.casesOn<;>first|rfl|exact nn e
noncomputable def uH(w:World):Heap:=match openEnds treeTable PySem.Challenge.pw_on0142_01 w 50000 with
 |some s=>s.heap
 |none=>default
theorem KU:opening PySem.Challenge.pw_on0142_01=plainProg PySem.Challenge.pw_on0142_01.main.scope.names:=by rfl
theorem QZ(s:Shared):fenceModules? PySem.Challenge.pw_on0142_01 s=some s:=by rfl
theorem YW(w:World):∃T os,Known gD w.params T∧openEnds treeTable PySem.Challenge.pw_on0142_01 w 50000=some (g6 T gD os):=by
 obtain⟨⟨h,gs,d,k,os⟩,e,e'⟩:=Option.map_eq_some_iff.mp (boot_open (N:=50000) KU (by rfl) QZ w);obtain⟨rfl,rfl,rfl,rfl⟩:h=boot_heap w.params∧gs=Array.mk []∧d=boot_drawn∧k=boot_toks:=by simpa using e'
 obtain⟨T,K,run⟩:=Vi w os;refine⟨T,os,K, ?_⟩;obtain⟨z1,z2,z3⟩:_∧_∧_:=by simpa only[Prod.mk.injEq]using ZP w.params
 have lk:g6 T gD os=g6 (Gq w.params fun a=>(T.get a).getD default) gD os:=by
  show Shared.mk (absHeap T 1274 {}) _ _ _ _=Shared.mk (absHeap (xr 12 (vA (Gp w.params) _) 1274) 1274 {}) _ _ _ _;rw[Gj (L:=Gp w.params) (f:=12) (by decide) fun q hq=> ?_];rcases List.mem_append.mp hq with Ar|Ar
  ·exact K.l q Ar
  ·exact K.o q Ar (vG (List.all_eq_true.mp (Cg w.params) q hq)).1
 have l1:=YT w.params os fun a=>(T.get a).getD default;rw[←lk]at l1;unfold openEnds;rw[e];show topFrom treeTable PySem.Challenge.pw_on0142_01 w 50000 ⟨boot_heap w.params,Array.mk [],boot_drawn,boot_toks,os⟩=_;unfold topFrom;dsimp only;rw[z1,z2,z3,run];show(match staticsOk (importedModules PySem.Challenge.pw_on0142_01.main.body) (boot_heap w.params) (g6 T gD os).heap&&namesBound PySem.Challenge.pw_on0142_01 (g6 T gD os).heap&&gensDone (g6 T gD os)&&laidKept (boot_heap w.params) (g6 T gD os).heap with|true=>_|false=>_)=_;rw[l1]
theorem left:LeftO PySem.Challenge.pw_on0142_01 Gn Bh (fun _=>true) (fun s=>s.heap) uH 50000:=fun w=>by
 obtain⟨T,os,K,e⟩:=YW w;unfold uH;rw[e];have lk:g6 T gD os=g6 (Gq w.params fun a=>(T.get a).getD default) gD os:=by
  show Shared.mk (absHeap T 1274 {}) _ _ _ _=Shared.mk (absHeap (xr 12 (vA (Gp w.params) _) 1274) 1274 {}) _ _ _ _;rw[Gj (L:=Gp w.params) (f:=12) (by decide) fun q hq=> ?_];rcases List.mem_append.mp hq with Ar|Ar
  ·exact K.l q Ar
  ·exact K.o q Ar (vG (List.all_eq_true.mp (Cg w.params) q hq)).1
 have l2:=YU w.params os fun a=>(T.get a).getD default;rw[←lk]at l2;show some (openSeen _ _ _ _ _ (g6 T gD os),(g6 T gD os).heap)=some (openGood _ _,(g6 T gD os).heap);rw[l2]
theorem Vk(e:h=uH w):iP w.params h:=by
 obtain⟨T,os,K,e'⟩:=YW w;unfold uH at e;rw[e']at e;rw[e];exact Vj K
noncomputable def OD{α:Type}(a:Nat):List (Nat×α)→Option α
 |[]=>none
 |q::l=>mS (Nat.beq a q.1) (some q.2) (OD a l)
theorem kB{α:Type}{a:Nat}{o:α}{L:List (Nat×α)}:OD a L=some o→(a,o)∈L:=by
 induction L with
 |nil=>exact nn
 |cons q l ih=>exact fun h=>jh h (fun b e=>by rw[qt b,←qc e];exact .head _) fun _ e=>.tail _ (ih e)
noncomputable def xA{α:Type}(a b:Option (List α)):Option (List α):=match a with
 |some x=>match b with
  |some y=>some (x++y)
  |none=>none
 |none=>none
theorem jN{α:Type}{a b:Option (List α)}{l:List α}(h:xA a b=some l):∃x y,a=some x∧b=some y∧l=x++y:=by
 induction a using qe with
 |none=>exact nn h
 |some x=>induction b using qe with
  |none=>exact nn h
  |some y=>obtain rfl:=qc h;exact⟨x,y,rfl,rfl,rfl⟩
abbrev Ow:=List (Value×Value)
noncomputable def Q0(v:Value):Option Tok:=match v with
 |.int _ t=>some t
 |.str _ t=>some t
 |_=>none
section
variable(P:Params)
mutual
noncomputable def Gr:V→Value→Option Ow
 |.none,y=>some [(.none,y)]
 |.bool b,y=>some [(.bool b,y)]
 |.top a,y=>some [(.ref a,y)]
 |.bi b,y=>some [(.builtin b.id,y)]
 |.ty t,y=>some [(.type t.id,y)]
 |.int i,y=>cD (Q0 y) fun t=>some [(.int i t,y)]
 |.str s,y=>cD (Q0 y) fun t=>some [(.str s t,y)]
 |.tup vs,y=>cD (KP y) fun a=>cD (OD a Ce) fun xs=>xA (some [(.ref a,y)]) (Gs vs xs)
 |.fy fs,y=>cD (KP y) fun a=>cD (OD a (Gl P)) fun q=>xA (some [(.ref a,y),(.bool (a==sysModules),.bool false)]) (Q2 fs q.1)
 |_,_=>none
noncomputable def Gs:List V→LV→Option Ow
 |[],ys=>fH (eu ys) (some [])
 |v::vs,ys=>cD (mw ys) fun q=>xA (Gr v q.1) (Gs vs q.2)
noncomputable def Q2:ai→List DictEntry→Option Ow
 |[],ys=>fH (eu ys) (some [])
 |(n,v)::vs,ys=>cD (mw ys) fun q=>cD (Q0 q.1.key) fun t=>xA (some [(.str n t,q.1.key),(.int (PyData.keyHash P n) 0,.int q.1.hash 0)]) (xA (Gr v q.1.val) (Q2 vs q.2))
end
end
def jK(l:Ow):Prop:=∀q∈l,q.1=q.2
theorem jK.left(h:jK (a++b)):jK a:=fun q hq=>h q (List.mem_append.mpr (.inl hq))
theorem jK.right(h:jK (a++b)):jK b:=fun q hq=>h q (List.mem_append.mpr (.inr hq))
theorem jK.one(h:jK ((a,b)::l)):a=b:=h _ (.head _)
theorem Ir(h:l.map (·.1)=l.map (·.2)):jK l:=by
 induction l with
 |nil=>intro q hq;cases hq
 |cons x l ih=>
  simp only[List.map_cons,List.cons.injEq]at h;intro q hq;rcases List.mem_cons.mp hq with rfl|hq
  ·exact h.1
  ·exact ih h.2 q hq
section
variable{P:Params}{I:IM} (ht:∀a xs,(a,xs)∈Ce→I a=some (tO xs)) (hd:∀a es n,(a,es,n)∈Gl P→I a=some (dO es n))
include ht hd
theorem OE:∀{y:Value} {l:Ow},Gr P v y=some l→jK l→aq I P (fun _=>0) 0 v y:=by
 refine V.rec (motive_1:=fun v=>∀{y:Value} {l:Ow},Gr P v y=some l→jK l→aq I P (fun _=>0) 0 v y) (motive_2:=fun vs=>∀{ys:LV} {l:Ow},Gs P vs ys=some l→jK l→aG I P (fun _=>0) 0 vs ys)
  (motive_3:=fun vs=>∀{ys:List DictEntry} {l:Ow},Q2 P vs ys=some l→jK l→bF I P (fun _=>0) 0 vs ys) (motive_4:=fun q=>∀{y:Value} {l:Ow},Gr P q.2 y=some l→jK l→aq I P (fun _=>0) 0 q.2 y)
  (fun e p=> ?_) (fun b _ _ e p=> ?_) (fun i _ _ e p=>aK e fun t _ e=> ?_) (fun x _ _ e p=>aK e fun t _ e=> ?_) (fun b _ _ e p=> ?_) (fun t _ _ e p=> ?_) (fun a _ _ e p=> ?_) (fun _ _ _ e _=>nn e)
  (fun vs ih _ _ e p=>aK e fun a _ e=>aK e fun xs q e=> ?_) (fun _ _ _ _ e _=>nn e) (fun _ _ _ _ _ e _=>nn e) (fun fs ih _ _ e p=>aK e fun a _ e=>aK e fun xs q e=> ?_) (fun _ _ _ e _=>nn e) (fun _ _ _ _ _ e _=>nn e)
  (fun _ _ _ e _=>nn e) (fun _ _ _ e _=>nn e) (fun _ _ _ e _=>nn e) (fun e p=> ?_) (fun v vs h1 h2 _ _ e p=>aK e fun q hq e=> ?_) (fun e p=> ?_) (fun v vs h1 h2 _ _ e p=>aK e fun q hq e=>aK e fun t _ e=> ?_) (fun _ _ h=>h) v
 ·exact(qc e▸p).one▸.none
 ·exact(qc e▸p).one▸.bool b
 ·exact(qc e▸p).one▸.int i t
 ·exact(qc e▸p).one▸.str x t
 ·exact(qc e▸p).one▸.bi b
 ·exact(qc e▸p).one▸.ty t
 ·exact(qc e▸p).one▸.top a
 ·obtain⟨x,y,e1,e2,e3⟩:=jN e;rw[e3,←qc e1]at p;exact p.one▸.tup (n:=0) (ht _ _ (kB q)) (ih e2 p.right)
 ·obtain⟨x,y,e1,e2,e3⟩:=jN e;rw[e3,←qc e1]at p;exact p.one▸.fy (Value.bool.inj (p _ (.tail _ (.head _)))) (hd _ _ _ (kB q)) (ih e2 p.right)
 ·rw[cI (cQ e)];exact .nil
 ·obtain⟨x,y,e1,e2,e3⟩:=jN e;rw[e3]at p;rw[iF hq];exact .cons (h1 e1 p.left) (h2 e2 p.right)
 ·rw[cI (cQ e)];exact .nil
 ·obtain⟨x1,x2,e1,e2,e5⟩:=jN e;obtain⟨x3,x4,e3,e4,e6⟩:=jN e2;rw[e5,e6,←qc e1]at p;rw[iF hq,show q.1=⟨PyData.keyHash P v.1,.str v.1 t,q.1.val⟩from congr (congrArg (DictEntry.mk · · q.1.val) (Value.int.inj (p _ (.tail _ (.head _)))).1.symm) p.one.symm];exact .cons (h1 e3 p.right.left) (h2 e4 p.right.right)
theorem Vl:∀{ys:LV} {l:Ow},Gs P vs ys=some l→jK l→aG I P (fun _=>0) 0 vs ys:=by
 induction vs with
 |nil=>exact fun e p=>cI (cQ e)▸.nil
 |cons v vs ih=>
  exact fun e p=>aK e fun q hq e=>by
   obtain⟨x,y,e1,e2,e3⟩:=jN e;rw[e3]at p;rw[iF hq];exact .cons (OE ht hd e1 p.left) (ih e2 p.right)
end
noncomputable def jY(h:Heap):IM:=fun a=>if a=1261 then none else h.get? a
noncomputable def Iu(q:Nat×Obj):Bool:= !(Nat.beq q.1 1261)
noncomputable def KL(P:Params):Frag:=(YF P++(gD.L P++rV.map (fun f=>(f.1,SM f.2.1)))).filter Iu
theorem i0(e:h.get? a=some o)(ne:Nat.beq a 1261=false):jY h a=some o:=by
 unfold jY;rw[if_neg (Nat.ne_of_beq_eq_false ne),e]
theorem Gu(h:Heap):QB (jY h) h:=fun b o e=>by
 unfold jY at e
 split at e
 ·exact nn e
 ·exact e
noncomputable def SQ(v:Value):Bool:=match v with
 |.ref _=>true
 |_=>false
theorem Q3(h:SQ v=true):v=.ref ((KP v).getD 0):=by
 induction v using Value.casesOn with
 |ref=>rfl
 |_=>exact ft h
noncomputable def YX(f:Addr×FuncData×List V):Bool:=eV (SQ f.2.1.code) (eV (i7 (Nat.beq (KQ f.2.1) 1261)) (eV (i7 (Nat.beq f.1 1261)) (eV (Nat.beq f.2.1.globals mainGlobals) (eV (Nat.beq f.2.1.builtins builtinsNs) (eu f.2.1.closure)))))
theorem Q4:rV.all YX=true:=⋯
noncomputable def KW(P:Params)(fd:FuncData)(ds:List V):Option Ow:=match fd.defaults with
 |.none=>fH (eu ds) (some [])
 |.ref a=>cD (OD a Ce) fun xs=>fH (i7 (eu ds)) (Gs P ds xs)
 |_=>none
noncomputable def uI(P:Params):List (Addr×FuncData×List V)→Option Ow
 |[]=>some []
 |f::l=>xA (KW P f.2.1 f.2.2) (uI P l)
theorem KX:∀{l:Ow},uI P fs=some l→jK l→f∈fs→∃x,KW P f.2.1 f.2.2=some x∧jK x:=by
 induction fs with
 |nil=>exact fun _ _ m=>nomatch m
 |cons g fs ih=>
  intro l e p hm;obtain⟨x,y,e1,e2,e3⟩:=jN e;rw[e3]at p;rcases List.mem_cons.mp hm with q|q
  ·exact⟨x,q▸e1,p.left⟩
  ·exact ih e2 p.right q
noncomputable def o8(P:Params):List DictEntry:=jJ (.str "law_on0142_01" 2060) (GL P)
noncomputable def Bj(P:Params):Array DictEntry:=match(boot_o_0 P).data with
 |.dict es _=>es
 |_=> #[]
noncomputable def DN(P:Params)(x:Str):Option Value:=match nsFind (o8 P).toArray x with
 |some y=>some y
 |none=>nsFind (Bj P) x
theorem Q5(h:DN P x=some y):nsFind (o8 P).toArray x=some y∨(nsFind (o8 P).toArray x=none∧nsFind (Bj P) x=some y):=by
 unfold DN at h;rcases q:nsFind (o8 P).toArray x with _|z
 ·rw[q]at h;exact .inr ⟨rfl,h⟩
 ·rw[q]at h;exact .inl h
noncomputable def Ci(P:Params):ai→Option Ow
 |[]=>some []
 |q::l=>cD (DN P q.1) fun y=>xA (Gr P q.2 y) (Ci P l)
theorem Vm:∀{l:Ow},Ci P fs=some l→jK l→lk x fs=some v→∃y z,DN P x=some y∧Gr P v y=some z∧jK z:=by
 induction fs with
 |nil=>exact fun _ _=>nn
 |cons q fs ih=>
  exact fun e p hm=>aK e fun y hy e=>by
   obtain⟨x1,y1,e1,e2,e3⟩:=jN e;rw[e3]at p;exact tZ (y:=q.1) (a:=q.2) hm (fun a b=>⟨y,x1,a▸hy,b▸e1,p.left⟩) fun hm=>ih e2 p.right hm
noncomputable def Cj(x:Option Ow):Ow:=match x with
 |some l=>l
 |none=>[]
theorem owG(P:Params):Ci P Ax=some (Cj (Ci P Ax)):=⋯
theorem abr(P:Params):(Cj (Ci P Ax)).map (·.1)=(Cj (Ci P Ax)).map (·.2):=⋯
theorem owF(P:Params):uI P rV=some (Cj (uI P rV)):=⋯
theorem abt(P:Params):(Cj (uI P rV)).map (·.1)=(Cj (uI P rV)).map (·.2):=⋯
theorem Q6(P:Params):tY (KL P) R4:=⟨⋯,⋯,⋯,⋯,⋯,⋯⟩
noncomputable def Ck(es:List DictEntry):Bool:=es.all fun q=>match q.key with
 |.str _ _=>true
 |_=>false
theorem vH{es:List DictEntry}(h:Ck es=true):StrKeys es.toArray:=fun q hq=>by
 have:=List.all_eq_true.mp h q (by simpa using hq)
 split at this
 ·rename_i n t e;exact⟨n,t,e⟩
 ·exact ft this
theorem YY(P:Params):Ck (o8 P)=true:=⋯
theorem abu(P:Params):Ck (Bj P).toList=true:=⋯
noncomputable def zP{α:Type}(q:Nat×α):Bool:= !(Nat.beq q.1 1261)
theorem Vn:Ce.all zP=true:=⋯
theorem Vo(P:Params):(Gl P).all zP=true:=⋯
theorem OF{α:Type}{l:List (Nat×α)}(h:l.all zP=true){q:Nat×α}(hq:q∈l):Nat.beq q.1 1261=false:=by
 have:=List.all_eq_true.mp h q hq;unfold zP at this
 simpa using this
theorem KY{o:Obj}{K:Frag}:K.lookup a=some o→(a,o)∈K:=by
 induction K with
 |nil=>exact nn
 |cons q K ih=>
  intro e;rw[List.lookup_cons]at e;rcases z:a==q.1 with _|_
  ·rw[z]at e;exact .tail _ (ih e)
  ·rw[z]at e;rw[eq_of_beq z,←qc e];exact .head _
theorem KZ(e:Cd d=some vs):d=.fields vs:=by
 induction d using Data.casesOn with
 |fields=>exact congrArg _ (qc e)
 |_=>exact nn e
theorem Vp(h:YB v=some x):∃t,v=.str x t:=by
 induction v using Value.casesOn with
 |str=>exact⟨_,congrArg (Value.str · _) (qc h)⟩
 |_=>exact nn h
theorem OG(h:vB (some o)=some x):∃vs t,o.data=.fields vs∧vs[1]? =some (.str x t):=
 aK (o:=Cd o.data) h fun vs e h=>aK h fun v e2 h=>(Vp h).elim fun t z=>⟨vs,t,KZ e,z▸e2⟩
section
variable(t:iP P h)
include t
theorem iP.ob{q:Nat×Obj}(hq:q∈YF P):h.get? q.1=some q.2:=t.l q (List.mem_append.mpr (.inr (List.mem_append.mpr (.inr hq))))
theorem iP.fn{q:Addr×FuncData×List V}(hq:q∈rV):h.get? q.1=some (SM q.2.1):=t.l (q.1,SM q.2.1) (List.mem_append.mpr (.inr (List.mem_append.mpr (.inl (List.mem_map.mpr ⟨q,hq,rfl⟩)))))
theorem iP.cut{q:Nat×Obj}(hq:q∈gD.L P):h.get? q.1=some q.2:=t.l q (List.mem_append.mpr (.inl hq))
theorem iP.tup(a:Nat)(xs:LV)(hq:(a,xs)∈Ce):jY h a=some (tO xs):=
 i0 (t.ob (q:=(a,tO xs)) (List.mem_append.mpr (.inl (List.mem_map.mpr ⟨_,hq,rfl⟩)))) (OF Vn hq)
theorem iP.fy(a:Nat)(es:List DictEntry)(n:Nat)(hq:(a,es,n)∈Gl P):jY h a=some (dO es n):=
 i0 (t.ob (q:=(a,dO es n)) (List.mem_append.mpr (.inr (List.mem_append.mpr (.inl (List.mem_map.mpr ⟨_,hq,rfl⟩)))))) (OF (Vo P) hq)
theorem iP.DY{q:Nat×Obj}(hq:q∈YE P):h.get? q.1=some q.2:=t.ob (List.mem_append.mpr (.inr (List.mem_append.mpr (.inr hq))))
theorem iP.kn(a:Nat)(o:Obj)(e:(KL P).lookup a=some o):jY h a=some o:=by
 obtain⟨h1,h2⟩:=List.mem_filter.mp (KY e);have ne:Nat.beq a 1261=false:=by unfold Iu at h2;simpa using h2
 refine i0 ?_ ne;rcases List.mem_append.mp h1 with h1|h1
 ·exact t.ob h1
 ·rcases List.mem_append.mp h1 with h1|h1
  ·exact t.cut h1
  ·obtain⟨q,hq,e⟩:=List.mem_map.mp h1;cases e
   exact t.fn hq
theorem iP.g:jY h 3=some (dO (o8 P) 100):=i0 (t.cut (q:=(3,dO (o8 P) 100)) (kB ⋯)) rfl
theorem iP.b:jY h 0=some (boot_o_0 P):=i0 (t.cut (q:=(0,boot_o_0 P)) (kB ⋯)) rfl
theorem iP.st:jY h 2=some (boot_o_2 P):=i0 (t.cut (q:=(2,boot_o_2 P)) (kB ⋯)) rfl
theorem iP.m4:jY h 4=some (boot_o_4 P):=i0 (t.cut (q:=(4,boot_o_4 P)) (kB ⋯)) rfl
theorem Vq(ex:KW P fd ds=some x)(px:jK x):(fd.defaults=.none∧ds=[])∨∃T n xs,fd.defaults=.ref T∧jY h T=some {cls:=.type "tuple",data:=.seq xs.toArray n}∧aG (jY h) P (fun _=>0) 0 ds xs∧ds≠[]:=by
 unfold KW at ex;induction q:fd.defaults using Value.casesOn with
 |none=>rw[q]at ex;exact .inl ⟨rfl,cI (cQ ex)⟩
 |ref T=>rw[q]at ex;exact aK ex fun xs hx ex=>.inr ⟨T,0,xs,rfl,t.tup _ _ (kB hx),Vl t.tup t.fy (cW ex) px,fun z=>by rw[z]at ex;exact nn ex⟩
 |_=>rw[q]at ex;exact nn ex
theorem iP.fnAt{fd:FuncData}{ds:List V}(hm:(a,fd,ds)∈rV):FnAt (jY h) P a fd ds:=by
 obtain⟨hc,r⟩:=bk (List.all_eq_true.mp Q4 _ hm);obtain⟨c1,r⟩:=bk r;obtain⟨a1,r⟩:=bk r;obtain⟨f1,r⟩:=bk r;obtain⟨f2,f3⟩:=bk r;obtain⟨o,eo,eq⟩:=t.q (KQ fd,fd.qualname) (List.mem_map.mpr ⟨_,hm,rfl⟩);obtain⟨x,ex,px⟩:=KX (owF P) (Ir (abt P)) hm;obtain⟨vs,tk,e2,e3⟩:=OG eq;exact⟨⟨_,i0 (t.fn hm) (uU a1),rfl,rfl⟩,⟨_,o,vs,tk,Q3 hc,i0 eo (uU c1),e2,e3⟩,qt f1,qt f2,cI f3,Vq t ex px⟩
end
theorem bOb(P:Params):(boot_o_0 P).data=.dict (Bj P) 159:=⋯
theorem sOb(P:Params):(boot_o_2 P).data=.dict #[] 0:=⋯
theorem iP.base{p:Program}{h:Heap}(t:iP w.params h):iI (bL p w (KL w.params)) (jY h):=by
 refine⟨⟨nsFind (o8 w.params).toArray,nsFind (Bj w.params),⟨_,_,100,t.g,rfl,vH (YY w.params),fun _=>rfl⟩,⟨_,_,_,t.b,bOb w.params, ?_,fun _=>rfl⟩,fun x v e=> ?_⟩,⟨nsFind #[],⟨_,_,_,t.st,sOb w.params, ?_,fun _=>rfl⟩, ?_⟩,
  fun a fd ds hm=>t.fnAt hm,t.kn,Q6 w.params,⟨_,i0 (t.DY (q:=(1,boot_o_1 w.params)) (by exact .head _)) rfl⟩⟩
 ·have:=vH (abu w.params)
  simpa using this
 ·obtain⟨y,z,h1,h2,h3⟩:=Vm (owG w.params) (Ir (abr w.params)) e;exact⟨y,Q5 h1,OE t.tup t.fy h2 h3⟩
 ·exact fun q hq=>by simp at hq
 ·kernel_rfl
theorem iP.kb{h:Heap}(t:iP P h):KB (jY h) 1265 1261:=by
 have ZQ:jY h 1265=some xu:=i0 (t.DY (q:=(1265,xu)) (kB ⋯)) rfl;refine⟨fun h' hs=>⟨_,_,_,_,_,_,_,_,_,hs _ _ ZQ,rfl,rfl,rfl,rfl,rfl,rfl,rfl,rfl,by decide⟩,fun h' hs=>⟨nsFind (o8 P).toArray,⟨_,_,100,hs _ _ t.g,rfl,vH (YY P),fun _=>rfl⟩, ?_⟩,by decide⟩;refine⟨4,_,⋯,by decide,by decide,by decide,hs _ _ t.m4,rfl,rfl,rfl⟩
noncomputable abbrev n5:OpenRow:=PySem.Challenge.rw_on0142_01.row
noncomputable def zL:DefRec:=match defOf Gn "law"with
 |some x=>x.1
 |none=>⟨"",default,[],default,default⟩
theorem QE:defOf Gn n5.name=some (zL,[]):=⋯
theorem abv:n5.prog.theDef n5.name=some (zL.params,zL.body,zL.scope):=⋯
theorem hkw:kwWritten? zL.params.kwonlyargs zL.params.kw_defaults=some []:=⋯
theorem bX:(chainsOk Gn&&opensWell n5.prog&&(frees n5.toRowW&&n5.within.isEmpty))=true:=⋯
theorem ZR:n5.prog.bare:=⟨rfl,rfl,rfl,rfl,rfl,by decide+kernel⟩
theorem ZS:n5.toRowW.promised:=⟨[.list [.int 3,.int 1]],by decide+kernel,by decide+kernel⟩
theorem Vr{ns:List Int}(h4:WTm.holds ([]:WRecords) (.and (.not (.lt (.lit (.int 63)) (.len (.arg 0)))) (.lit (.bool true))) {args:=[WData.list (ns.map WData.int)]}=true):ns.length≤63:=by
  by_cases q:ns.length≤63
  ·exact q
  ·simp[WTm.holds,WTm.value]at h4;have e:less? (WData.int 63) (WData.int ns.length)=some (decide ((63:Int)<ns.length)):=by rfl
   rw[e,decide_eq_true (by omega)]at h4;exact ft h4
theorem YZ(a b:List WData):n5.claim.post a (WData.bool true) b=true:=⋯
theorem Q7{I:IM}{σ:Nat→Addr}{n:Nat}{ns:List Int}:∀{s s':Shared} {vs:LV},
  layAllW R cl P SR (ns.map .int) s=some (vs,s')→aG I P σ n (ns.map V.num) vs∧s'.heap=s.heap:=by
 induction ns with
 |nil=>exact fun h=>⟨(oq h).1▸.nil,congrArg Shared.heap (oq h).2.symm⟩
 |cons i ns ih=>
  intro s s' vs h;have h:(match layAllW R cl P SR (ns.map .int) {s with toks:=s.toks+1}with
   |some r=>some (.int i s.toks::r.1,r.2)
   |Option.none=>Option.none)=some (vs,s'):=h
  rcases e:layAllW R cl P SR (ns.map .int) {s with toks:=s.toks+1}with _|r
  ·rw[e]at h;exact nn h
  ·rw[e]at h;obtain⟨h1,h2⟩:=oq h;obtain⟨h3,h4⟩:=ih e;exact⟨h1▸.cons (.num i _) h3,h2▸h4⟩
theorem Vs{σ:Nat→Addr}{n:Nat}{ns:List Int}{s s':Shared}{vs:LV}
  (h:layAllW R cl P SR [.list (ns.map .int)] s=some (vs,s')):∃xs,vs=[.ref s.heap.objs.size]∧s'.heap.get? s.heap.objs.size=some {cls:=.type "list",data:=.seq xs.toArray 0}∧aG I P σ n (ns.map V.num) xs:=by
 simp only[layAllW,layW]at h
 split at h
 ·rename_i a e
  split at e
  ·rename_i r e'
   obtain rfl:=qc e;cases h
   obtain⟨h1,h2⟩:=Q7 (I:=I) (σ:=σ) (n:=n) (vs:=r.1) (s':=r.2) e';refine⟨r.1,by rw[h2], ?_,h1⟩;rw[←h2];exact Heap.get?_push_size _ rfl
  ·exact nn e
 ·exact nn h
theorem ZT:WalkX Gn Bh (fun _ _=>True) (fun s=>s.heap) uH n5.toRowW zL [] fun f vs=>PySem.call f vs:=by
 intro w kD s₁ mg mb G hY a o pm cd yU dV kV ha ho Cm hdf hmg ZU args vals as L abw ade hrd hwl Z4;have t0:iP w.params kD.heap:=Vk hY;have t:=t0.mono L.keeps;obtain⟨Rh,Yx⟩:=pre_splitW abw;obtain⟨d,r,rfl,h1,h2⟩:=hasAllW_cons Rh;obtain rfl:=hasAllW_nil h2;obtain⟨xs,rfl,h3⟩:=hasW_list h1;obtain⟨ns,rfl⟩:=items_int h3;have kX:ns.length≤63:=Vr Yx;obtain⟨SR,_,hl⟩:=L.laid;obtain⟨xs,rfl,hx,hr⟩:=Vs (I:=jY s₁.heap) (σ:=fun _=>0) (n:=0) hl;have law:a=1273:=by
  obtain⟨o',es,ep,e1,e2,_,e3⟩:=G.T.g;have e4:=Gu _ _ _ t.g;have e1:s₁.heap.get? 3=some o':=e1;rw[e4]at e1;obtain rfl:=qc e1;cases e2
  have e5:=e3 "law";have e6:nsFind (o8 w.params).toArray "law"=some (.ref 1273):=⋯;have e7:mg "law"=some (.ref a):=hmg;rw[e6,e7]at e5;cases e5
  rfl
 subst law;have T0:kD.heap.get? 1261=some (tabObj #[]):=t0.DY (q:=(1261,OC)) (kB ⋯);have T1:s₁.heap.get? 1261=some (tabObj #[]):=L.keeps _ _ T0;have ne:Nat.beq kD.heap.objs.size 1261=false:=by
  have:=Heap.lt_size T0;induction e:Nat.beq kD.heap.objs.size 1261 using qd with
  |false=>rfl
  |true=>rw[qt e]at this;exact absurd this (Nat.lt_irrefl _)
 have H:au (bL n5.prog w (KL w.params)) (0+101) callerA (jY s₁.heap) (fun _=>0) [] s₁:=
  ⟨⟨by decide,by decide,rfl,rfl⟩,t.base,⟨Gu _,fun k o e=>by trivial,fun j k h=>absurd h (qp _),fun k h=>absurd h (qp _)⟩⟩
 refine QU (k:=0) (T:=1261) kX H t.kb (if_pos rfl) T1 (.lst (n:=0) (i0 hx ne) hr) fun s' keep sm tab=> ?_;obtain⟨ps,L5⟩:=tab;refine⟨.inl ⟨.bool true,.bool true,[],rfl,fun cls=>rfl,.bool true, ?_,fun _=>⟨.nil,fun a ha=>nomatch ha⟩⟩,⟨fun b ob hb=> ?_,fun b ob hb=> ?_⟩,sm.2.2,.of_eq (sm.1.trans ZU)⟩
 ·exact YZ _ _
 ·by_cases q:b=1261
  ·subst q;rw[T1]at hb;obtain rfl:=qc hb;refine .inr (.inl ⟨⟨1265,xu,_,t.DY (q:=(1265,xu)) (kB ⋯),rfl,rfl,rfl⟩,rfl, #[],ps,rfl, ?_⟩);rw[L5];simp[tabObj]
  ·exact .inl (keep b ob hb q)
 ·by_cases q:b=1261
  ·subst q;exact⟨_,L5⟩
  ·exact⟨_,keep b ob hb q⟩
theorem abx(h:n5.wellSaid=true):n5.Holds:=
 holds_openX (r:=n5) (XP:=fun _ _=>True) left (fun _ _=>trivial) (fun _ _ _ _ _=>trivial) QE abv hkw (fun s _=>recFacts_nil rfl) rfl h bX ZR ZS ZT
section
open PySem.W.Fast
noncomputable abbrev aR:OpenLaw:=PySem.Challenge.rw_on0142_01
theorem y1:(sreFenced aR.prog.main&&((moduleNames aR.prog.main.body).isEmpty||lookedIntoSs (moduleNames aR.prog.main.body) aR.prog.main.body))=true:=⋯
theorem y2:tw8377067652309620493 aR.prog=true:=⋯
theorem y3:aR.prog.boundNames.all (fun n=> !worldNames.contains n)=true:=⋯
theorem y4:tw13343964577679436407 aR.prog aR.prog.main.body "vars"=false:=⋯
theorem y5:tw13343964577679436407 aR.prog aR.prog.main.body "dir"=false:=⋯
theorem y6:tw13343964577679436407 aR.prog aR.prog.main.body "locals"=false:=⋯
theorem y7:tw8326940854005059898 {strict:= !(importedModules aR.prog.main.body).all cThrough.contains,foot:=none,bare:=[]} aR.prog.main.body=true:=⋯
theorem y8:tw17119622794617984870 aR.prog aR.prog.main.body (fun _ n=>tw17868728402115742887 n)=true:=⋯
theorem ZV:looksOpen aR.prog=true:=by
 have a2:namesResolve aR.prog=true:=by rw[te8377067652309620493];exact y2
 have b:(["vars","dir","locals"]:List Str).filter (readsOut aR.prog aR.prog.main.body)=[]:=by
  have r:∀n,readsOut aR.prog aR.prog.main.body n=tw13343964577679436407 aR.prog aR.prog.main.body n:=fun n=>by rw[te13343964577679436407]
  simp only[List.filter_cons,List.filter_nil,r,y4,y5,y6];rfl
 have a4:noRoadLSs {strict:= !(importedModules aR.prog.main.body).all cThrough.contains,foot:=none,bare:=(["vars","dir","locals"]:List Str).filter (readsOut aR.prog aR.prog.main.body)} aR.prog.main.body=true:=by
  rw[b,te8326940854005059898];exact y7
 have a5:namesMeet aR.prog aR.prog.main.body (fun _ n=>attrL n)=true:=by
  rw[te17119622794617984870,te17868728402115742887];exact y8
 exact look_both (look_both (look_both (look_both (look_both (Bool.and_eq_true_iff.mp y1).1 (Bool.and_eq_true_iff.mp y1).2) a2) y3) a4) a5
theorem z1:(aR.row.loose.isEmpty&&(aR.row.makers.isEmpty&&
 ((aR.row.records.isEmpty||aR.row.raises.all fun ct=>ct.1 !=.builtin "AttributeError"&&ct.1 !=.builtin "TypeError")&&
 ((aR.row.raises.all fun ct=>match ct.1 with|.builtin n=> !aR.row.prog.boundNames.contains (Str.ofString n)&& !ofTheWorld.contains n|.own _=>true)&&
 (decide (aR.row.records.map (·.1)).Nodup&&((aR.row.records.all fun x=> !x.1.opensWith "__"&& !builtinNamed x.1&&aR.row.prog.boundNames.contains x.1&&x.2.all fun f=> !f.1.opensWith "__")&&
 (aR.row.toRowW.solid&&(aR.row.pre.litsOk&&(aR.row.post.litsOk&&(aR.row.raises.all (·.2.litsOk)&&
 (aR.row.mutates.all (fun i=>match aR.row.args[i]? with
  |some sh=> !sh.arms.any WShape.isObj
  |none=>false)&&
 (aR.row.within.all (fun i=>decide (i<aR.row.args.length))&&(aR.row.same.all (fun i=>decide (i<aR.row.args.length))&&(aR.row.prog.boundNames.contains aR.row.name&& !startupNames.contains aR.row.name))))))))))))))=true:=⋯
theorem row_said:aR.row.wellSaid=true:=by
 have h:=z1;simp only[Bool.and_eq_true]at h;obtain⟨h1,h2,h3,h4,h5,h6,h7,h8,h9,n9,AV,vQ,yN,h14,h15⟩:=h;exact look_both (look_both (look_both (look_both (look_both (look_both (look_both (look_both (look_both (look_both (look_both (look_both (look_both (look_both (look_both ZV h1) h2) h3) h4) h5) h6) h7) h8) h9) n9) AV) vQ) yN) h14) h15
theorem v1:(decide (aR.foot≤(behindTheImports aR.prog).length)&&aR.footing.all tw10501279942588096481)=true:=⋯
theorem v2:tw8179353310426384613 aR.prog aR.footing=true:=⋯
theorem v3:(aR.most.all (fun n=>decide (63≤n))&&aR.bound.all (fun n=>decide (2^63≤n)))=true:=⋯
theorem v4:tw8326940854005059898 {strict:=true,foot:=some aR.bound',writes:=aR.writes,may:=aR.may} aR.footing=true:=⋯
theorem v5:tw9558739934217749035 aR.about aR.above=true:=⋯
theorem v6:tw16286561074155671207 aR=true:=⋯
theorem v7:((["type","isinstance","issubclass","getattr","hasattr"]:List Str).all fun n=>aR.about !=[n])=true:=⋯
theorem v8:(aR.bound'.all fun n=> !qNamed n||aR.about==[n]|| !tw6984425678791042302 aR n)=true:=⋯
theorem v9:(!aR.writes||(aR.prog.main.body.flatMap importedNames).all fun n=> !aR.reads n)=true:=⋯
theorem v10:((aR.prog.main.body.flatMap importedNames).all fun n=> !aR.reads n||(drawsOf n aR.prog.main.body).all fun mn=>mn.2 !=("attrgetter":Str)&&mn.2 !=("methodcaller":Str))=true:=⋯
theorem v11:tw17119622794617984870 aR.prog aR.footing (fun sc n=>(!(["type","isinstance","issubclass","getattr","hasattr"]:List Str).contains n||sc.names.lookup n==some .globalImplicit)&&
  (aR.may !=some n||sc.kind==.module||sc.names.lookup n==some .globalImplicit))=true:=⋯
theorem v12:(aR.own.contains aR.name&&(aR.own.eraseDups.length==aR.own.length&&aR.own.all (fun n=> !builtinNamed n)))=true:=⋯
theorem v13:tw17119622794617984870 aR.prog aR.above (fun _ n=> !aR.own.contains n)=true:=⋯
theorem v14:tw17119622794617984870 aR.prog aR.footing (fun sc n=>sc.kind==.module||sc.names.lookup n !=some .globalExplicit)=true:=⋯
theorem Q8:aR.wellSaid=true:=by
 have h1:=Bool.and_eq_true_iff.mp v1;have h3:=Bool.and_eq_true_iff.mp v3;have vQ:=Bool.and_eq_true_iff.mp v12;have yN:=Bool.and_eq_true_iff.mp vQ.2;have e1:aR.footing.all footLine=true:=by rw[te10501279942588096481];exact h1.2
 have e2:noClassBlock aR.prog aR.footing=true:=by rw[te8179353310426384613];exact v2
 have e4:noRoadLSs {strict:=true,foot:=some aR.bound',writes:=aR.writes,may:=aR.may} aR.footing=true:=by rw[te8326940854005059898];exact v4
 have e5:defStands aR.about aR.above=true:=by rw[te9558739934217749035];exact v5
 have e6:aR.namesIt=true:=by rw[te16286561074155671207];exact v6
 have e8:(aR.bound'.all fun n=> !builtinNamed n||aR.about==[n]|| !aR.reads n)=true:=by
  have r:∀n,aR.reads n=tw6984425678791042302 aR n:=fun n=>by rw[te6984425678791042302]
  simp only[named_eq,r];exact v8
 have e11:=v11;have e13:=v13;have e14:=v14;rw[←te17119622794617984870]at e11 e13 e14;exact look_both (look_both (look_both (look_both (look_both (look_both (look_both (look_both (look_both (look_both (look_both (look_both (look_both (look_both (look_both (look_both (look_both (look_both row_said h1.1) e1) e2) h3.1) h3.2) e4) e5) e6) v7) e8) v9) v10) e11) vQ.1) yN.1) yN.2) e13) e14
theorem OH:PySem.Challenge.rw_on0142_01.Holds:=⟨Q8,abx row_said⟩
end
end Mine.Internal
theorem PySem.Challenge.cw_on0142_01_holds : PySem.Challenge.rw_on0142_01.Holds :=
 Mine.Internal.OH
