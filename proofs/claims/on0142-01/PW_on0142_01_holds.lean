import PyProof.Rows.All
import Wide.All
import OpenK.AllK
import Wide.FinOn
import Lean
import PySem.Challenge.RW_on0142_01
set_option Elab.async false
set_option backward.match.sparseCases false
set_option linter.all false
set_option maxRecDepth 1000000
set_option maxHeartbeats 8000000
set_option genSizeOf false
set_option genInjectivity false
namespace Mine.Internal
open PySem PySem.W PySem.Calls PyProof.Rows
theorem kr{p:Prop}(h:p:=by kernel_rfl):p:=h
abbrev qc:=@Option.some.inj
noncomputable abbrev qd:=@Bool.casesOn
noncomputable abbrev qe:=@Option.casesOn
abbrev qf:=@Nat.le_refl
abbrev qg:=@Nat.le_add_left
noncomputable abbrev qh:=@List.casesOn
abbrev qi:=@List.mem_cons_self
abbrev qj:=@List.mem_cons_of_mem
noncomputable abbrev qk:=@Nat.casesAuxOn
abbrev qm:=@Nat.zero_le
noncomputable abbrev qn:=@Prod.casesOn
abbrev qo:=@Nat.le_of_ble_eq_true
abbrev qp:=@Nat.le_add_right
abbrev qr:=@Nat.not_lt_zero
abbrev qt:=@Nat.eq_of_beq_eq_true
abbrev qu:=@Nat.add_le_add_left
abbrev qw:=@List.getElem?_eq_getElem
abbrev qx:=@List.getElem?_append_right
abbrev qy:=@Nat.le_trans
abbrev qz:=@Nat.lt_of_lt_of_le
abbrev qA:=@Nat.le_of_eq
abbrev qB:=@List.getElem?_append_left
abbrev qC:=@Nat.le_of_not_lt
abbrev qD:=@List.mem_of_getElem?
abbrev qE:=@Bool.false_ne_true
abbrev qF:=@Nat.lt_succ_self
abbrev qG:=@Nat.lt_of_succ_lt
abbrev qH:=@Nat.lt_of_succ_lt_succ
abbrev qI:=@Nat.zero_lt_of_lt
noncomputable abbrev qJ:=@Int.casesOn
abbrev qK:=@Nat.le_succ
abbrev qL:=@Nat.le_of_lt
abbrev qM:=@Nat.le_of_lt_succ
abbrev qN:=@List.not_mem_nil
abbrev qO:=@Int.fmod_nonneg_of_pos
abbrev qP:=@Nat.le_succ_of_le
abbrev qQ:=@Prod.mk.inj
abbrev qR:=@Nat.lt_or_ge
abbrev qS:=@Nat.succ_ne_zero
noncomputable abbrev SP:=Shared→Prop
abbrev dS:=Value→SP
abbrev LV:=List Value
theorem nn{α:Type _}{x:α}{G:Prop}(e:(none:Option α)=some x):G:=Option.noConfusion rfl (heq_of_eq e)
theorem ns{α:Type _}{x:α}{G:Prop}(e:some x=(none:Option α)):G:=nn e.symm
theorem ft{G:Prop}(e:false=true):G:=absurd e qE
theorem tf{G:Prop}(e:true=false):G:=absurd e.symm qE
theorem oB{α β:Type _}{a c:α}{b d:β}(e:some (a,b)=some (c,d)):a=c∧b=d:=qQ (qc e)
theorem dU{a b:Nat}:a≤b+a:=qg ..
theorem kT{a b:Nat}:a≤a+b:=qp ..
theorem iS:a<a+1:=qF _
theorem kU:a≤a+1:=qK _
theorem rF:0<a+1:=Nat.zero_lt_succ _
theorem nz:0≤a:=qm _
theorem ms{α:Type _}{a:α}{l:List α}:a∈a::l:=.head _
theorem kL{α:Type _}{a b:α}{l:List α}:a∈b::a::l:=.tail _ (.head _)
theorem wg{a b c:Nat}(h:a≤b):a≤c+b:=qy h dU
theorem ntr{a b c:Nat}(h:a≤b):a≤b+c:=qy h kT
theorem Rn{a b c:Nat}(h:a+b≤c):a≤c:=qy kT h
theorem Ln{a b c:Nat}(h:b+a≤c):a≤c:=qy dU h
noncomputable def cC{α β:Type}(o:Option α)(f:α→Option β):Option β:=match o with
 |some x=>f x
 |none=>none
noncomputable def fH{β:Type}(b:Bool)(x:Option β):Option β:=match b with
 |true=>x
 |false=>none
theorem aK{α β:Type}{o:Option α}{f:α→Option β}{r:β}{G:Prop}(e:cC o f=some r)(h:∀x,o=some x→f x=some r→G):G:=by
 induction o using qe with
 |none=>exact nn e
 |some x=>exact h x rfl e
theorem cP{β:Type}{b:Bool}{x:Option β}{r:β}(e:fH b x=some r):b=true:=by induction b using qd with|true=>rfl|false=>exact nn e
theorem cW{β:Type}{b:Bool}{x:Option β}{r:β}(e:fH b x=some r):x=some r:=by induction b using qd with|true=>exact e|false=>exact nn e
noncomputable def mX{α:Type}(b:Bool)(x y:α):α:=match b with
 |true=>x
 |false=>y
theorem jj{α:Type}{b:Bool}{x y:Option α}{r:α}{G:Prop}(e:mX b x y=some r)(h1:b=true→x=some r→G)(h2:b=false→y=some r→G):G:=by
 induction b using qd with
 |true=>exact h1 rfl e
 |false=>exact h2 rfl e
inductive BI where
 |append|extend|pop|IE|len|zS|abs|repr|Br
noncomputable def BI.id:BI→String
 |.append=>"list.append"|.extend=>"list.extend"|.pop=>"list.pop"|.IE=>"dict.get"|.len=>"len"|.zS=>"isinstance"|.abs=>"abs"|.repr=>"repr"|.Br=>"dict.update"
inductive TY where
 |list|tuple|str|int|bool|range
noncomputable def TY.id:TY→String
 |.list=>"list"|.tuple=>"tuple"|.str=>"str"|.int=>"int"|.bool=>"bool"|.range=>"range"
set_option genCtorIdx false
inductive V where
 |none
 |bool (b:Bool)
 |int (i:Int)
 |str (s:Str)
 |bi (b:BI)
 |ty (t:TY)
 |top (a:Addr)
 |loc (k:Nat)
 |tup (vs:List V)
 |lst (vs:List V)
 |inst (C:Addr) (fs:List (Str×V))
 |fB (fs:List (Str×V))
 |vO (n:Nat)
 |jy (f:FuncData) (free:List (Str×V))
 |aL (v:Value)
 |num (i:Int)
 |nG (b:Bool)
inductive AO where
 |inst (C:Addr) (d:Nat)
 |list (pre:List Value) (vs:List V)
 |dict (fs:List (Str×V))
abbrev St:=List AO
abbrev IM:=Addr→Option Obj
def zT(f fd:FuncData):Prop:=
 fd.params=f.params∧fd.body=f.body∧fd.scope=f.scope∧fd.globals=mainGlobals∧fd.builtins=builtinsNs∧fd.defaults=.none∧fd.kwdefaults=.none∧fd.qualname=f.qualname
inductive fY (i:Int):Value→Prop
 |mk (t:Tok):fY i (.int i t)
inductive oE (s:Str):Value→Prop
 |mk (t:Tok):oE s (.str s t)
inductive iH (σ:Nat→Addr) (n₀ k:Nat):Value→Prop
 |mk (h:k<n₀):iH σ n₀ k (.ref (σ k))
inductive iW (I:IM) (R:List Value→Prop):Value→Prop
 |mk {a:Addr} {n:Nat} {xs:List Value} (h:I a=some {cls:=.type "tuple",data:=.seq xs.toArray n}) (r:R xs):iW I R (.ref a)
inductive mY (I:IM) (R:List Value→Prop):Value→Prop
 |mk {a:Addr} {n:Nat} {xs:List Value} (h:I a=some {cls:=.type "list",data:=.seq xs.toArray n}) (r:R xs):mY I R (.ref a)
inductive pX (I:IM) (C:Addr) (R:List DictEntry→Prop):Value→Prop
 |mk {a d:Addr} {n:Nat} {es:List DictEntry} (h:I a=some {cls:=.ref C,dict:=some d,data:=.plain}) (g:I d=some {cls:=.type "dict",data:=.dict es.toArray n}) (r:R es):pX I C R (.ref a)
inductive uQ (I:IM) (n:Nat):Value→Prop
 |mk {a:Addr} {t u v:Tok} (h:I a=some {cls:=.type "range",data:=.fields #[.int 0 t,.int (n:Int) u,.int 1 v]}):uQ I n (.ref a)
inductive tQ (I:IM) (R:List DictEntry→Prop):Value→Prop
 |mk {a:Addr} {n:Nat} {es:List DictEntry} (hs:(a==sysModules)=false) (g:I a=some {cls:=.type "dict",data:=.dict es.toArray n}) (r:R es):tQ I R (.ref a)
inductive rG (I:IM) (f:FuncData) (R:List (Str×Addr)→Prop):Value→Prop
 |mk {a:Addr} {o:Obj} {fd:FuncData} {c:Addr} {co:Obj} {vs:Array Value} {t:Tok} (h:I a=some o) (hc:o.cls=.type "function") (hd:o.data=.func fd) (hf:zT f fd)
   (Cs:fd.code=.ref c) (DU:I c=some co) (DV:co.data=.fields vs) (hq:vs[1]? =some (.str fd.qualname t)) (r:R fd.closure):rG I f R (.ref a)
inductive dP (A:Value→Prop) (B:List Value→Prop):List Value→Prop
 |mk {x:Value} {xs:List Value} (h:A x) (r:B xs):dP A B (x::xs)
inductive gh (P:Params) (n:Str) (A:Value→Prop) (B:List DictEntry→Prop):List DictEntry→Prop
 |mk {t:Tok} {x:Value} {xs:List DictEntry} (h:A x) (r:B xs):gh P n A B (⟨PyData.keyHash P n,.str n t,x⟩::xs)
inductive nH (I:IM) (n:Str) (A:Value→Prop) (B:List (Str×Addr)→Prop):List (Str×Addr)→Prop
 |mk {c:Addr} {x:Value} {co:Obj} {xs:List (Str×Addr)} (g:I c=some co) (gd:co.data=.cell (some x)) (h:A x) (r:B xs):nH I n A B ((n,c)::xs)
def f7(I I':IM):Prop:=∀b o,I b=some o→I' b=some o
section
variable{R:List Value→Prop}
theorem iW.imp(i:f7 I I')(f:∀xs,R xs→R' xs)(h:iW I R y):iW I' R' y:=by induction h using iW.casesOn with|mk h r=>exact .mk (i _ _ h) (f _ r)
theorem mY.imp(i:f7 I I')(f:∀xs,R xs→R' xs)(h:mY I R y):mY I' R' y:=by induction h using mY.casesOn with|mk h r=>exact .mk (i _ _ h) (f _ r)
theorem pX.imp(i:f7 I I')(f:∀xs,D xs→D' xs)(h:pX I C D y):pX I' C D' y:=by induction h using pX.casesOn with|mk h g r=>exact .mk (i _ _ h) (i _ _ g) (f _ r)
theorem tQ.imp(i:f7 I I')(f:∀xs,D xs→D' xs)(h:tQ I D y):tQ I' D' y:=by induction h using tQ.casesOn with|mk hs g r=>exact .mk hs (i _ _ g) (f _ r)
theorem uQ.imp(i:f7 I I')(h:uQ I n y):uQ I' n y:=by induction h using uQ.casesOn with|mk h=>exact .mk (i _ _ h)
theorem rG.imp{R R':List (Str×Addr)→Prop}(i:f7 I I')(f:∀xs,R xs→R' xs)(h:rG I fd R y):rG I' fd R' y:=by
 induction h using rG.casesOn with|mk h hc hd hf Cs DU DV hq r=>exact .mk (i _ _ h) hc hd hf Cs (i _ _ DU) DV hq (f _ r)
theorem dP.imp(a:∀y,A y→A' y)(f:∀xs,R xs→R' xs)(h:dP A R xs):dP A' R' xs:=by induction h using dP.casesOn with|mk h r=>exact .mk (a _ h) (f _ r)
theorem gh.imp(a:∀y,A y→A' y)(f:∀xs,D xs→D' xs)(h:gh P n A D xs):gh P n A' D' xs:=by induction h using gh.casesOn with|mk h r=>exact .mk (a _ h) (f _ r)
theorem nH.imp{R R':List (Str×Addr)→Prop}{xs:List (Str×Addr)}(i:f7 I I')(a:∀y,A y→A' y)(f:∀xs,R xs→R' xs)(h:nH I n A R xs):nH I' n A' R' xs:=by
 induction h using nH.casesOn with|mk g gd h r=>exact .mk (i _ _ g) gd (a _ h) (f _ r)
end
mutual
noncomputable def aq(I:IM)(P:Params):(Nat→Addr)→Nat→V→Value→Prop
 |_,_,.none,y=>y=.none
 |_,_,.bool b,y=>y=.bool b
 |_,_,.int i,y=>fY i y
 |_,_,.str s,y=>oE s y
 |_,_,.bi b,y=>y=.builtin b.id
 |_,_,.ty t,y=>y=.type t.id
 |_,_,.top a,y=>y=.ref a
 |σ,n,.loc k,y=>iH σ n k y
 |σ,n,.tup vs,y=>iW I (aG I P σ n vs) y
 |_,_,.lst vs,y=>mY I (aG I P (fun _=>0) 0 vs) y
 |_,_,.inst C fs,y=>pX I C (bF I P (fun _=>0) 0 fs) y
 |_,_,.fB fs,y=>tQ I (bF I P (fun _=>0) 0 fs) y
 |_,_,.vO n,y=>uQ I n y
 |σ,n,.jy f free,y=>rG I f (iX I P σ n free) y
 |_,_,.aL v,y=>y=v
 |_,_,.num i,y=>fY i y
 |_,_,.nG b,y=>y=.bool b
noncomputable def aG(I:IM)(P:Params):(Nat→Addr)→Nat→List V→List Value→Prop
 |_,_,[],ys=>ys=[]
 |σ,n,v::vs,ys=>dP (aq I P σ n v) (aG I P σ n vs) ys
noncomputable def bF(I:IM)(P:Params):(Nat→Addr)→Nat→List (Str×V)→List DictEntry→Prop
 |_,_,[],ys=>ys=[]
 |σ,n,q::vs,ys=>gh P q.1 (aq I P σ n q.2) (bF I P σ n vs) ys
noncomputable def iX(I:IM)(P:Params):(Nat→Addr)→Nat→List (Str×V)→List (Str×Addr)→Prop
 |_,_,[],ys=>ys=[]
 |σ,n,q::vs,ys=>nH I q.1 (aq I P σ n q.2) (iX I P σ n vs) ys
end
section
variable{P:Params}
theorem aq.none:aq I P σ n₀ .none .none:=rfl
theorem aq.bool(b:Bool):aq I P σ n₀ (.bool b) (.bool b):=rfl
theorem aq.int(i:Int)(t:Tok):aq I P σ n₀ (.int i) (.int i t):=.mk t
theorem aq.str(s:Str)(t:Tok):aq I P σ n₀ (.str s) (.str s t):=.mk t
theorem aq.bi(b:BI):aq I P σ n₀ (.bi b) (.builtin b.id):=rfl
theorem aq.ty(t:TY):aq I P σ n₀ (.ty t) (.type t.id):=rfl
theorem aq.top(a:Addr):aq I P σ n₀ (.top a) (.ref a):=rfl
theorem aq.loc(k:Nat)(h:k<n₀):aq I P σ n₀ (.loc k) (.ref (σ k)):=.mk h
theorem aq.aL(v:Value):aq I P σ n₀ (.aL v) v:=rfl
theorem aq.num(i:Int)(t:Tok):aq I P σ n₀ (.num i) (.int i t):=.mk t
theorem aq.nG(b:Bool):aq I P σ n₀ (.nG b) (.bool b):=rfl
theorem aq.tup(h:I a=some {cls:=.type "tuple",data:=.seq xs.toArray n})(r:aG I P σ n₀ vs xs):aq I P σ n₀ (.tup vs) (.ref a):=.mk h r
theorem aq.lst(h:I a=some {cls:=.type "list",data:=.seq xs.toArray n})(r:aG I P (fun _=>0) 0 vs xs):aq I P σ n₀ (.lst vs) (.ref a):=.mk h r
theorem aq.inst(h:I a=some {cls:=.ref C,dict:=some d,data:=.plain})(g:I d=some {cls:=.type "dict",data:=.dict es.toArray n})(r:bF I P (fun _=>0) 0 fs es):aq I P σ n₀ (.inst C fs) (.ref a):=.mk h g r
theorem aq.vO(n:Nat)(h:I a=some {cls:=.type "range",data:=.fields #[.int 0 t,.int (n:Int) u,.int 1 v]}):aq I P σ n₀ (.vO n) (.ref a):=.mk h
theorem aq.fB(hs:(a==sysModules)=false)(g:I a=some {cls:=.type "dict",data:=.dict es.toArray n})(r:bF I P (fun _=>0) 0 fs es):aq I P σ n₀ (.fB fs) (.ref a):=.mk hs g r
theorem aq.jy(h:I a=some o)(hc:o.cls=.type "function")(hd:o.data=.func fd)(hf:zT f fd)(Cs:fd.code=.ref c)(DU:I c=some co)(DV:co.data=.fields vs)(hq:vs[1]? =some (.str fd.qualname t))
  (r:iX I P σ n₀ free fd.closure):aq I P σ n₀ (.jy f free) (.ref a):=.mk h hc hd hf Cs DU DV hq r
theorem aG.nil:aG I P σ n₀ [] []:=rfl
theorem aG.cons(h:aq I P σ n₀ v x)(r:aG I P σ n₀ vs xs):aG I P σ n₀ (v::vs) (x::xs):=.mk h r
theorem bF.nil:bF I P σ n₀ [] []:=rfl
theorem bF.cons(h:aq I P σ n₀ v x)(r:bF I P σ n₀ vs xs):bF I P σ n₀ ((n,v)::vs) (⟨PyData.keyHash P n,.str n t,x⟩::xs):=.mk h r
theorem iX.nil:iX I P σ n₀ [] []:=rfl
theorem iX.cons(g:I c=some co)(gd:co.data=.cell (some x))(h:aq I P σ n₀ v x)(r:iX I P σ n₀ vs xs):iX I P σ n₀ ((n,v)::vs) ((n,c)::xs):=.mk g gd h r
theorem aq.inv(h:aq I P σ n₀ v y):aq I P σ n₀ v y:=h
theorem aG.inv(h:aG I P σ n₀ vs ys):aG I P σ n₀ vs ys:=h
theorem bF.inv(h:bF I P σ n₀ vs ys):bF I P σ n₀ vs ys:=h
theorem iX.inv(h:iX I P σ n₀ vs ys):iX I P σ n₀ vs ys:=h
theorem uf(r:aq I P σ n₀ (.loc l) y):y=.ref (σ l)∧l<n₀:=by
 obtain⟨h⟩:=r;exact⟨rfl,h⟩
end
structure Le (I I':IM) (σ af:Nat→Addr) (n n':Nat):Prop where
 i:∀b o,I b=some o→I' b=some o
 s:∀k,k<n→af k=σ k
 n:n≤n'
theorem Le.refl(I:IM)(σ:Nat→Addr)(n:Nat):Le I I σ σ n n:=⟨fun _ _ e=>e,fun _ _=>rfl,qf _⟩
theorem Le.trans{σ af oF:Nat→Addr}{n n' Z6:Nat}(x:Le I I' σ af n n')(y:Le I' rH af oF n' Z6):Le I rH σ oF n Z6:=
 ⟨fun b o e=>y.i b o (x.i b o e),fun k h=>(y.s k (qz h x.n)).trans (x.s k h),qy x.n y.n⟩
theorem Le.zero(h:∀b o,I b=some o→I' b=some o){af:Nat→Addr}{n:Nat}:Le I I' (fun _=>0) af 0 n:=⟨h,fun _ q=>absurd q (qr _),qm _⟩
section
variable{P:Params}
theorem iH.imp(l:k<n→af k=σ k∧k<n')(h:iH σ n k y):iH af n' k y:=by
 induction h using iH.casesOn with|mk h=>exact(l h).1▸.mk (l h).2
theorem aq.mono(l:Le I I' σ af n n'){v:V}{x:Value}(h:aq I P σ n v x):aq I' P af n' v x:=
 V.rec (motive_1:=fun v=>∀σ n af n' x,Le I I' σ af n n'→aq I P σ n v x→aq I' P af n' v x) (motive_2:=fun v=>∀σ n af n' x,Le I I' σ af n n'→aG I P σ n v x→aG I' P af n' v x)
  (motive_3:=fun v=>∀σ n af n',Le I I' σ af n n'→(∀x,bF I P σ n v x→bF I' P af n' v x)∧∀x,iX I P σ n v x→iX I' P af n' v x) (motive_4:=fun v=>∀σ n af n' x,Le I I' σ af n n'→aq I P σ n v.2 x→aq I' P af n' v.2 x)
  (fun _ _ _ _ _ _ h=>h) (fun _ _ _ _ _ _ _ h=>h) (fun _ _ _ _ _ _ _ h=>h) (fun _ _ _ _ _ _ _ h=>h) (fun _ _ _ _ _ _ _ h=>h) (fun _ _ _ _ _ _ _ h=>h) (fun _ _ _ _ _ _ _ h=>h)
  (fun _ _ _ _ _ _ l h=>iH.imp (fun q=>⟨l.s _ q,qz q l.n⟩) h) (fun _ ih _ _ _ _ _ l h=>iW.imp l.i (fun _=>ih _ _ _ _ _ l) h) (fun _ ih _ _ _ _ _ l h=>mY.imp l.i (fun _=>ih _ _ _ _ _ (Le.zero l.i)) h)
  (fun _ _ ih _ _ _ _ _ l h=>pX.imp l.i (ih _ _ _ _ (Le.zero l.i)).1 h) (fun _ ih _ _ _ _ _ l h=>tQ.imp l.i (ih _ _ _ _ (Le.zero l.i)).1 h) (fun _ _ _ _ _ _ l h=>uQ.imp l.i h) (fun _ _ ih _ _ _ _ _ l h=>rG.imp l.i (ih _ _ _ _ l).2 h)
  (fun _ _ _ _ _ _ _ h=>h) (fun _ _ _ _ _ _ _ h=>h) (fun _ _ _ _ _ _ _ h=>h)
  (fun _ _ _ _ _ _ h=>h) (fun _ _ a b _ _ _ _ _ l h=>dP.imp (fun _=>a _ _ _ _ _ l) (fun _=>b _ _ _ _ _ l) h) (fun _ _ _ _ _=>⟨fun _ h=>h,fun _ h=>h⟩)
  (fun _ _ a b _ _ _ _ l=>⟨fun _ h=>gh.imp (fun _=>a _ _ _ _ _ l) (b _ _ _ _ l).1 h,fun _ h=>nH.imp l.i (fun _=>a _ _ _ _ _ l) (b _ _ _ _ l).2 h⟩) (fun _ _ ih=>ih) v σ n af n' x l h
theorem aG.mono(l:Le I I' σ af n n'):∀{x:List Value},aG I P σ n v x→aG I' P af n' v x:=by
 induction v with
 |nil=>intro x h;replace h:=h.inv;subst h;exact .nil
 |cons a v ih=>intro x h;replace h:=h.inv;induction h using dP.casesOn with|mk h r=>exact .cons (h.mono l) (ih r)
theorem bF.mono(l:Le I I' σ af n n'):∀{x:List DictEntry},bF I P σ n v x→bF I' P af n' v x:=by
 induction v with
 |nil=>intro x h;replace h:=h.inv;subst h;exact .nil
 |cons a v ih=>intro x h;replace h:=h.inv;induction h using gh.casesOn with|mk h r=>exact .cons (h.mono l) (ih r)
theorem aG.up(r:aG I P (fun _=>0) 0 vs xs):aG I P σ n vs xs:=r.mono (Le.zero fun _ _ e=>e)
theorem bF.up(r:bF I P (fun _=>0) 0 vs xs):bF I P σ n vs xs:=r.mono (Le.zero fun _ _ e=>e)
theorem aq.up(r:aq I P (fun _=>0) 0 v x):aq I P σ n v x:=r.mono (Le.zero fun _ _ e=>e)
end
inductive dw (I:IM) (P:Params) (σ:Nat→Addr) (n:Nat):AO→Obj→Prop
 |inst (C:Addr) (d:Nat) (h:d<n):dw I P σ n (.inst C d) {cls:=.ref C,dict:=some (σ d),data:=.plain}
 |list {pre:List Value} {vs:List V} {xs:List Value} (ep:Nat) (hp:pre.length≤100000) (r:aG I P σ n vs xs):dw I P σ n (.list pre vs) {cls:=.type "list",data:=.seq (pre++xs).toArray ep}
 |dict {fs:List (Str×V)} {es:List DictEntry} (ep:Nat) (r:bF I P σ n fs es):dw I P σ n (.dict fs) {cls:=.type "dict",data:=.dict es.toArray ep}
inductive rI (σ:Nat→Addr) (n:Nat) (C:Addr) (d:Nat):Obj→Prop
 |mk (h:d<n):rI σ n C d {cls:=.ref C,dict:=some (σ d),data:=.plain}
inductive j7 (pre:List Value) (R:List Value→Prop):Obj→Prop
 |mk {xs:List Value} (ep:Nat) (hp:pre.length≤100000) (r:R xs):j7 pre R {cls:=.type "list",data:=.seq (pre++xs).toArray ep}
inductive kW (R:List DictEntry→Prop):Obj→Prop
 |mk {es:List DictEntry} (ep:Nat) (r:R es):kW R {cls:=.type "dict",data:=.dict es.toArray ep}
def Ro(I:IM)(P:Params)(σ:Nat→Addr)(n:Nat)(a:AO)(o:Obj):Prop:=match a with
 |.inst C d=>rI σ n C d o
 |.list pre vs=>j7 pre (aG I P σ n vs) o
 |.dict fs=>kW (bF I P σ n fs) o
theorem dw.inv(h:dw I P σ n a o):Ro I P σ n a o:=by
 induction h using dw.casesOn with
 |inst C d h=>exact .mk h
 |list ep hp r=>exact .mk ep hp r
 |dict ep r=>exact .mk ep r
theorem dw.mono(l:Le I I' σ af n n'):dw I P σ n v x→dw I' P af n' v x
 |.inst C d h=>l.s d h▸.inst C d (qz h l.n)
 |.list ep hp r=>.list ep hp (r.mono l)
 |.dict ep r=>.dict ep (r.mono l)
structure cF (P:Params) (I:IM) (σ:Nat→Addr) (st:St) (h:Heap):Prop where
 sub:∀b o,I b=some o→h.get? b=some o
 cells:∀k o,st[k]? =some o→∃ob,h.get? (σ k)=some ob∧dw I P σ st.length o ob
 inj:∀j k,j<st.length→k<st.length→σ j=σ k→j=k
 out:∀k,k<st.length→I (σ k)=none
structure aM (P:Params) (X:Addr→Prop) (I:IM) (σ:Nat→Addr) (n:Nat) (h:Heap) (I':IM) (af:Nat→Addr) (st':St) (h':Heap):Prop where
 le:Le I I' σ af n st'.length
 fresh:∀b o,I' b=some o→I b=some o∨h.get? b=none
 new:∀k,n≤k→k<st'.length→h.get? (af k)=none
 rel:cF P I' af st' h'
 keep:∀b o,h.get? b=some o→¬X b→(∀k,k<n→σ k≠b)→h'.get? b=some o
 alive:∀b o,h.get? b=some o→∃o',h'.get? b=some o'
theorem aM.refl{σ:Nat→Addr}{st:St}{h:Heap}(r:cF P I σ st h):aM P X I σ st.length h I σ st h:=
 ⟨Le.refl ..,fun _ _ e=>.inl e,fun _ a b=>absurd a (Nat.not_le.mpr b),r,fun _ _ e _ _=>e,fun _ o e=>⟨o,e⟩⟩
theorem aM.trans{X:Addr→Prop}{I I' rH:IM}{σ af oF:Nat→Addr}{n:Nat}{st' iI:St}{h h' Lo:Heap}
  (x:aM P X I σ n h I' af st' h')(y:aM P X I' af st'.length h' rH oF iI Lo):aM P X I σ n h rH oF iI Lo:=by
 have dead:∀b,h'.get? b=none→h.get? b=none:=fun b e=>by
  induction q:h.get? b using qe with
  |none=>rfl
  |some o=>obtain⟨o',z⟩:=x.alive b o q;rw[e]at z;exact nn z
 refine⟨x.le.trans y.le,fun b o e=> ?_,fun k a b=> ?_,y.rel,fun b o e hx hk=> ?_,fun b o e=> ?_⟩
 ·rcases y.fresh b o e with q|q
  ·exact x.fresh b o q
  ·exact .inr (dead b q)
 ·by_cases q:k<st'.length
  ·rw[y.le.s k q];exact x.new k a q
  ·exact dead _ (y.new k (qC q) b)
 ·refine y.keep b o (x.keep b o e hx hk) hx fun k nI=> ?_;by_cases q:k<n
  ·rw[x.le.s k q];exact hk k q
  ·intro z;have:=x.new k (qC q) nI;rw[z,e]at this;exact ns this
 ·obtain⟨o',z⟩:=x.alive b o e;exact y.alive b o' z
theorem aM.weaken
  (x:aM P X I σ n h I' af st' h')(hxy:∀b,X b→Y b):aM P Y I σ n h I' af st' h':=
 ⟨x.le,x.fresh,x.new,x.rel,fun b o e hy hk=>x.keep b o e (fun q=>hy (hxy b q)) hk,x.alive⟩
abbrev ai:=List (Str×V)
inductive Out where
 |next|brk|cont|ret (v:V)
abbrev cz:=(Out×ai)×St
inductive aA:Type→Type 1 where
 |ok {α:Type} (a:α):aA α
 |ask {α:Type} (d:Nat) (f:Addr) (args:List V) (st:St) (k:V→St→aA α):aA α
 |need {α:Type} (p:Prop) (r:aA α):aA α
 |fork {α:Type} (b:Bool) (k:Bool→aA α):aA α
 |pick {α:Type} (vs:List V) (i:Int) (k:V→aA α):aA α
 |loop {α:Type} (turn:V→ai→St→aA cz) (keep:ai→ai) (vs:List V) (m:ai) (st:St) (k:cz→aA α):aA α
 |bad {α:Type}:aA α
namespace aA
noncomputable def bind{α β:Type}:aA α→(α→aA β)→aA β
 |.ok a,f=>f a
 |.ask d g as st k,f=>.ask d g as st fun v st'=>(k v st').bind f
 |.need p r,f=>.need p (r.bind f)
 |.fork b k,f=>.fork b fun c=>(k c).bind f
 |.pick vs i k,f=>.pick vs i fun v=>(k v).bind f
 |.loop t kp vs m st k,f=>.loop t kp vs m st fun p=>(k p).bind f
 |.bad,_=>.bad
end aA
theorem aA.bind_assoc{α β γ:Type}(r:aA α)(f:α→aA β)(g:β→aA γ):(r.bind f).bind g=r.bind fun a=>(f a).bind g:=by
 induction r with
 |ok a=>rfl
 |bad=>rfl
 |ask d a as st k ih=>exact congrArg (aA.ask d a as st) (funext fun v=>funext fun st'=>ih v st' f)
 |need p r ih=>exact congrArg (aA.need p) (ih f)
 |fork b k ih=>exact congrArg (aA.fork b) (funext fun c=>ih c f)
 |pick vs i k ih=>exact congrArg (aA.pick vs i) (funext fun c=>ih c f)
 |loop t kp vs m st k _ ih=>exact congrArg (aA.loop t kp vs m st) (funext fun p=>ih p f)
noncomputable abbrev Spec:=Nat→Addr→List V→St→(V→St→Prop)→Prop
noncomputable def Good(S:Spec)(pre:Nat→Addr→List V→St→Prop):{α:Type}→aA α→(α→Prop)→Prop
 |_,.ok a,Q=>Q a
 |_,.ask d f as st k,Q=>∃W:V→St→Prop,S d f as st W∧∀v st',W v st'→Good S pre (k v st') Q
 |_,.need p r,Q=>p∧Good S pre r Q
 |_,.fork b k,Q=>Good S pre (k b) Q
 |_,.pick vs i k,Q=>∃j v,i=Int.ofNat j∧vs[j]? =some v∧vs.length<500∧Good S pre (k v) Q
 |_,.loop turn keep vs m st k,Q=>∃Inv:List V→ai→St→Prop,Inv vs m st∧
   (∀v rest m st,Inv (v::rest) m st→Good S pre (turn v m st) (fun p=>match p.1.1 with
    |.next=>Inv rest (keep p.1.2) p.2
    |.cont=>Inv rest (keep p.1.2) p.2
    |.brk=>Good S pre (k ((.next,p.1.2),p.2)) Q
    |.ret u=>Good S pre (k ((.ret u,p.1.2),p.2)) Q))∧
   ∀m st,Inv [] m st→Good S pre (k ((.next,m),st)) Q
 |_,.bad,_=>False
theorem Good.mono{S:Spec}{pre:Nat→Addr→List V→St→Prop}{α:Type}{r:aA α}:∀{Q Q':α→Prop},(∀a,Q a→Q' a)→Good S pre r Q→Good S pre r Q':=by
 induction r with
 |ok a=>exact fun h=>h a
 |bad=>exact fun _=>id
 |ask d f as st k ih=>exact fun h ⟨W,x1,x2⟩=>⟨W,x1,fun v st' hs=>ih v st' h (x2 v st' hs)⟩
 |need p r ih=>exact fun h x=>⟨x.1,ih h x.2⟩
 |fork b k ih=>exact fun h x=>ih b h x
 |pick vs i k ih=>exact fun h ⟨j,v,e,e1,e2,x⟩=>⟨j,v,e,e1,e2,ih v h x⟩
 |loop t kp vs m st k Z7 yz=>
  rintro Q Q' h ⟨Inv,h0,h1,h2⟩;refine⟨Inv,h0,fun v rest m st hi=>Z7 v m st (fun p hp=> ?_) (h1 v rest m st hi),fun m st hi=>yz _ h (h2 m st hi)⟩;obtain⟨⟨o,m'⟩,st'⟩:=p;induction o using Out.casesOn with
  |next=>exact hp
  |cont=>exact hp
  |brk=>exact yz _ h hp
  |ret u=>exact yz _ h hp
theorem ng{S:Spec}{pre:Nat→Addr→List V→St→Prop}{α β:Type}{r:aA α}:∀{f:α→aA β} {Q:β→Prop},Good S pre (r.bind f) Q↔Good S pre r fun a=>Good S pre (f a) Q:=by
 induction r with
 |ok a=>exact Iff.rfl
 |bad=>exact Iff.rfl
 |ask d g as st k ih=>exact fun{f Q}=>⟨(by rintro⟨W,x1,x2⟩;exact⟨W,x1,fun v st' hs=>(ih v st').mp (x2 v st' hs)⟩),(by rintro⟨W,x1,x2⟩;exact⟨W,x1,fun v st' hs=>(ih v st').mpr (x2 v st' hs)⟩)⟩
 |need p r ih=>exact fun{f Q}=>⟨fun x=>⟨x.1,ih.mp x.2⟩,fun x=>⟨x.1,ih.mpr x.2⟩⟩
 |fork b k ih=>exact fun{f Q}=>ih b
 |pick vs i k ih=>exact fun{f Q}=>⟨(by rintro⟨j,v,e,e1,e2,x⟩;exact⟨j,v,e,e1,e2,(ih v).mp x⟩),(by rintro⟨j,v,e,e1,e2,x⟩;exact⟨j,v,e,e1,e2,(ih v).mpr x⟩)⟩
 |loop t kp vs m st k Z7 yz=>
  intro f Q
  constructor
  ·rintro⟨Inv,h0,h1,h2⟩;refine⟨Inv,h0,fun v rest m st hi=>Good.mono (fun p hp=> ?_) (h1 v rest m st hi),fun m st hi=>(yz _).mp (h2 m st hi)⟩;obtain⟨⟨o,m'⟩,st'⟩:=p;induction o using Out.casesOn with
   |next=>exact hp
   |cont=>exact hp
   |brk=>exact(yz _).mp hp
   |ret u=>exact(yz _).mp hp
  ·rintro⟨Inv,h0,h1,h2⟩;refine⟨Inv,h0,fun v rest m st hi=>Good.mono (fun p hp=> ?_) (h1 v rest m st hi),fun m st hi=>(yz _).mpr (h2 m st hi)⟩;obtain⟨⟨o,m'⟩,st'⟩:=p;induction o using Out.casesOn with
   |next=>exact hp
   |cont=>exact hp
   |brk=>exact(yz _).mpr hp
   |ret u=>exact(yz _).mpr hp
theorem Good.bind{S:Spec}{pre:Nat→Addr→List V→St→Prop}{α β:Type}{r:aA α}{f:α→aA β}{Q:β→Prop}:Good S pre (r.bind f) Q→Good S pre r fun a=>Good S pre (f a) Q:=ng.mp
noncomputable def uR(turn:V→ai→St→aA cz)(keep:ai→ai):List V→ai→St→aA cz
 |[],m,st=>.ok ((.next,m),st)
 |v::vs,m,st=>(turn v m st).bind fun p=>match p.1.1 with
  |.next=>uR turn keep vs (keep p.1.2) p.2
  |.cont=>uR turn keep vs (keep p.1.2) p.2
  |.brk=>.ok ((.next,p.1.2),p.2)
  |.ret u=>.ok ((.ret u,p.1.2),p.2)
theorem pY{S:Spec}{pre:Nat→Addr→List V→St→Prop}{α:Type}{turn:V→ai→St→aA cz}{keep:ai→ai}{vs:List V}{m:ai}{st:St}{k:cz→aA α}{Q:α→Prop}
  (g:Good S pre (.loop turn keep vs m st k) Q):Good S pre (uR turn keep vs m st) fun p=>Good S pre (k p) Q:=by
 obtain⟨Inv,h0,h1,h2⟩:=g;induction vs generalizing m st with
 |nil=>exact h2 m st h0
 |cons v vs ih=>
  refine(ng (r:=turn v m st)).mpr (Good.mono (fun p hp=> ?_) (h1 v vs m st h0));obtain⟨⟨o,m'⟩,st'⟩:=p;induction o using Out.casesOn with
  |next=>exact ih hp
  |cont=>exact ih hp
  |brk=>exact hp
  |ret u=>exact hp
theorem Z8{S:Spec}{pre:Nat→Addr→List V→St→Prop}{α:Type}{turn:V→ai→St→aA cz}{keep:ai→ai}{vs:List V}{m:ai}{st:St}{k:cz→aA α}{Q:α→Prop}
  (g:Good S pre (uR turn keep vs m st) fun p=>Good S pre (k p) Q):Good S pre (.loop turn keep vs m st k) Q:=by
 refine⟨fun vs m st=>Good S pre (uR turn keep vs m st) fun p=>Good S pre (k p) Q,g,fun v rest m st hi=> ?_,fun m st hi=>hi⟩;have h:=Good.bind (show Good S pre ((turn v m st).bind _) _ from hi);refine Good.mono (fun p hp=> ?_) h;obtain⟨⟨o,m'⟩,st'⟩:=p;induction o using Out.casesOn with
 |next=>exact hp
 |cont=>exact hp
 |brk=>exact hp
 |ret u=>exact hp
noncomputable def Rp{α:Type}:Option α→aA α:=fun o=>match o with
 |some a=>.ok a
 |none=>.bad
theorem DW{S:Spec}{pre:Nat→Addr→List V→St→Prop}{α:Type}{o:Option α}{Q:α→Prop}(g:Good S pre (Rp o) Q):∃a,o=some a∧Q a:=by
 induction o using qe with
 |none=>exact g.elim
 |some a=>exact⟨a,rfl,g⟩
noncomputable def seq(a b:Str):Bool:=Fast.sEq a b
theorem gA:seq a b=true↔a=b:=Fast.sEq_iff
theorem iE:seq a b=false↔a≠b:=by
 constructor
 ·intro h e;rw[gA.mpr e]at h;exact tf h
 ·intro h;induction q:seq a b using qd with
  |false=>rfl
  |true=>exact absurd (gA.mp q) h
noncomputable def lk{α:Type}(x:Str):List (Str×α)→Option α
 |[]=>none
 |p::l=>mX (seq x p.1) (some p.2) (lk x l)
theorem rJ{α:Type}{x:Str}{p:Str×α}{l:List (Str×α)}(q:seq x p.1=true):lk x (p::l)=some p.2:=congrArg (mX · (some p.2) (lk x l)) q
theorem nh{α:Type}{x:Str}{p:Str×α}{l:List (Str×α)}(q:seq x p.1=false):lk x (p::l)=lk x l:=congrArg (mX · (some p.2) (lk x l)) q
theorem xH{α:Type}(x:Str)(l:List (Str×α)):lk x l=l.lookup x:=by
 induction l with
 |nil=>rfl
 |cons p l ih=>
  rw[List.lookup];induction q:seq x p.1 using qd with
  |true=>rw[rJ q,show(x==p.1)=true from beq_iff_eq.mpr (gA.mp q)]
  |false=>rw[nh q,show(x==p.1)=false from beq_eq_false_iff_ne.mpr (iE.mp q),ih]
noncomputable def put{α:Type}(x:Str)(v:α):List (Str×α)→List (Str×α)
 |[]=>[(x,v)]
 |p::l=>mX (seq x p.1) ((p.1,v)::l) (p::put x v l)
theorem xJ{α:Type}{x:Str}{v:α}{p:Str×α}{l:List (Str×α)}(q:seq x p.1=true):put x v (p::l)=(p.1,v)::l:=congrArg (mX · _ _) q
theorem rK{α:Type}{x:Str}{v:α}{p:Str×α}{l:List (Str×α)}(q:seq x p.1=false):put x v (p::l)=p::put x v l:=congrArg (mX · ((p.1,v)::l) (p::put x v l)) q
theorem VG{α:Type}(x y:Str)(v:α)(l:List (Str×α)):lk y (put x v l)=if y=x then some v else lk y l:=by
 induction l with
 |nil=>
  induction q:seq y x using qd with
  |true=>exact(rJ (p:=(x,v)) q).trans (if_pos (gA.mp q)).symm
  |false=>exact(nh (p:=(x,v)) q).trans (if_neg (iE.mp q)).symm
 |cons p l ih=>
  induction q:seq x p.1 using qd with
  |true=>
   rw[xJ q];induction r:seq y p.1 using qd with
   |true=>rw[rJ (p:=(p.1,v)) r,if_pos ((gA.mp r).trans (gA.mp q).symm)]
   |false=>rw[nh (p:=(p.1,v)) r,nh r,if_neg (fun z=>iE.mp r (z.trans (gA.mp q)))]
  |false=>
   rw[rK q];induction r:seq y p.1 using qd with
   |true=>rw[rJ r,rJ r,if_neg (fun z=>iE.mp q (z.symm.trans (gA.mp r)))]
   |false=>rw[nh r,nh r,ih]
set_option genInjectivity false in
structure FE where
 scope:Scope
 free:List (Str×V)
def Ct(I:IM)(a:Addr)(m:Str→Option Value):Prop:=∃o es ep,I a=some o∧o.data=.dict es ep∧StrKeys es∧∀name,nsFind es name=m name
theorem Ct.ns{I:IM}{h:Heap}(x:∀b o,I b=some o→h.get? b=some o)(n:Ct I a m):h.Ns a m:=
 (by obtain⟨o,es,ep,e,r⟩:=n;exact⟨o,es,ep,x _ _ e,r⟩)
theorem Ct.mono(x:∀b o,I b=some o→I' b=some o)(n:Ct I a m):Ct I' a m:=
 (by obtain⟨o,es,ep,e,r⟩:=n;exact⟨o,es,ep,x _ _ e,r⟩)
inductive AK where
 |plain
 |zg (f:Addr)
set_option genInjectivity false in
structure DX where
 attrs:List (Addr×List (Str×AK))
 clsAt:List (Addr×List (Str×Addr))
 isin:List (Nat×Nat×Bool)
 tR:List Addr
 makes:List (Addr×Addr)
 keeps:List Addr
noncomputable def IF(n:Nat):Value:=match n with
 |0=>.type "NoneType"
 |1=>.type "bool"
 |2=>.type "int"
 |3=>.type "str"
 |4=>.type "tuple"
 |5=>.type "list"
 |6=>.type "dict"
 |n+7=>.ref n
noncomputable def IG(n:Nat):Value:=match n with
 |0=>.type "list"
 |1=>.type "tuple"
 |2=>.type "str"
 |3=>.type "int"
 |4=>.type "bool"
 |5=>.type "range"
 |n+6=>.ref n
noncomputable def Rq(K:Frag)(D:Addr):Bool:=
 plainGet K D "__class__"&&hasDictIn K D&&findIn K (.ref D) "__class__"==some (some (.builtin "object.__class__"))&&
 specialIn K (.builtin "object.__class__") "__get__"==some (some (.builtin "getset_descriptor.__get__"))&&takesIn K (.builtin "object.__class__")==some true&&mroIn K D (.type "object")==some true
noncomputable def Lq(K:Frag)(C f:Addr):Bool:=makesIn K C&&findIn K (.ref C) "__init__"==some (some (.ref f))&&typeIn K (.ref f)==some (.type "function")
noncomputable def wh(K:Frag)(C:Addr)(x:Str):AK→Bool
 |.plain=>plainGet K C x&&hasDictIn K C&&findIn K (.ref C) x==some none&&findIn K (.ref C) "__setattr__"==some (some (.builtin "object.__setattr__"))&&plainOver K C
 |.zg f=>plainGet K C x&&findIn K (.ref C) x==some (some (.ref f))&&isFn K (.ref f)
noncomputable def Lr(o:Option CFound)(f:Addr):Bool:=match o with
 |some c=>match c with
  |.val v=>match v with
   |.ref g=>Nat.beq g f
   |_=>false
  |_=>false
 |none=>false
theorem Lu(h:Lr o f=true):o=some (.val (.ref f)):=by
 induction o using qe with
 |none=>exact ft h
 |some c=>induction c using CFound.casesOn with
  |val v=>induction v using Value.casesOn with
   |ref g=>rw[qt h]
   |_=>exact ft h
  |_=>exact ft h
noncomputable def G4(K:Frag)(C:Addr)(x:Str)(f:Addr):Bool:=
 readsIn K C (.type "type")&&specialIn K (.ref C) "__getattribute__"==some (some (.builtin "type.__getattribute__"))&&
 Lr (findCls K (.ref C) (.type "type") x) f
structure ug (K:Frag) (T:DX):Prop where
 attrs:(T.attrs.all fun p=>p.2.all fun q=>wh K p.1 q.1 q.2)=true
 clsAt:(T.clsAt.all fun p=>p.2.all fun q=>G4 K p.1 q.1 q.2)=true
 isin:(T.isin.all fun p=>kitOne K (IF p.1) (IG p.2.1)==some p.2.2)=true
 tR:(T.tR.all fun D=>Rq K D)=true
 makes:(T.makes.all fun p=>Lq K p.1 p.2)=true
 keeps:(T.keeps.all fun a=>keepIn K (.ref a))=true
set_option genInjectivity false in
structure Tab where
 glob:List (Str×V)
 fns:List (Addr×FuncData×List V)
 asks:List Addr
 K:Frag
 T:DX
set_option genInjectivity false in
structure Cx where
 prog:Program
 w:World
 S:Spec
 pre:Nat→Addr→List V→St→Prop
 tab:Tab
structure FnAt (I:IM) (P:Params) (a:Addr) (fd:FuncData) (ds:List V):Prop where
 at_:∃o,I a=some o∧o.cls=.type "function"∧o.data=.func fd
 code:∃c co vs t,fd.code=.ref c∧I c=some co∧co.data=.fields vs∧vs[1]? =some (.str fd.qualname t)
 glob:fd.globals=mainGlobals
 blt:fd.builtins=builtinsNs
 jy:fd.closure=[]
 G5:(fd.defaults=.none∧ds=[])∨∃T n xs,fd.defaults=.ref T∧I T=some {cls:=.type "tuple",data:=.seq xs.toArray n}∧aG I P (fun _=>0) 0 ds xs∧ds≠[]
structure iJ (cx:Cx) (I:IM):Prop where
 glob:∃mg mb,Ct I mainGlobals mg∧Ct I builtinsNs mb∧∀x v,lk x cx.tab.glob=some v→
  ∃y,(mg x=some y∨(mg x=none∧mb x=some y))∧aq I cx.w.params (fun _=>0) 0 v y
 lim:∃mc,Ct I cStatics mc∧mc "sys.recursionlimit"=none
 fns:∀a fd ds,(a,fd,ds)∈cx.tab.fns→FnAt I cx.w.params a fd ds
 K:∀a o,cx.tab.K.lookup a=some o→I a=some o
 tabs:ug cx.tab.K cx.tab.T
 tS:∃o,I sysModules=some o
theorem FnAt.mono(x:∀b o,I b=some o→I' b=some o)(f:FnAt I P a fd ds):FnAt I' P a fd ds:=
 let⟨⟨o,h1,h2⟩,⟨c,co,vs,t,g1,g2,g3⟩,gl,bl,cl,df⟩:=f
 ⟨⟨o,x _ _ h1,h2⟩,⟨c,co,vs,t,g1,x _ _ g2,g3⟩,gl,bl,cl,df.imp id (by rintro⟨T,n,xs,e1,e2,e3,e4⟩;exact⟨T,n,xs,e1,x _ _ e2,e3.mono ⟨x,fun _ q=>absurd q (qr _),qf _⟩,e4⟩)⟩
theorem iJ.mono(x:∀b o,I b=some o→I' b=some o)(b:iJ cx I):iJ cx I':=
 ⟨(by obtain⟨mg,mb,h1,h2,h3⟩:=b.glob;exact⟨mg,mb,h1.mono x,h2.mono x,fun y v e=>(by obtain⟨z,a,r⟩:=h3 y v e;exact⟨z,a,r.mono ⟨x,fun _ q=>absurd q (qr _),qf _⟩⟩)⟩),
  (by obtain⟨mc,h1,h2⟩:=b.lim;exact⟨mc,h1.mono x,h2⟩),fun a fd ds m=>(b.fns a fd ds m).mono x,fun a o e=>x _ _ (b.K a o e),b.tabs,(by obtain⟨o,e⟩:=b.tS;exact⟨o,x _ _ e⟩)⟩
theorem iJ.limit{I:IM}{h:Heap}(b:iJ cx I)(x:∀b o,I b=some o→h.get? b=some o):h.NoLimit:=
 (by obtain⟨mc,h1,h2⟩:=b.lim;exact⟨mc,h1.ns x,h2⟩)
theorem iJ.zU(b:iJ cx I)(x:∀b o,I b=some o→h.get? b=some o):cx.tab.K.In h:=fun a o e=>x _ _ (b.K a o e)
def aF(env:Env)(b:Addr):Prop:=b=env.locals∨∃x,env.kindOf x=some .cell∧env.cells.lookup x=some b
structure av (P:Params) (fe:FE) (m:ai) (env:Env) (I:IM) (σ:Nat→Addr) (n:Nat) (h:Heap):Prop where
 scope:env.scope=fe.scope
 kind:fe.scope.kind=.function
 glob:env.globals=mainGlobals
 blt:env.builtins=builtinsNs
 ns:∃mm,h.Ns env.locals mm∧∀x v,lk x m=some v→env.kindOf x=some .local→∃y,mm x=some y∧aq I P σ n v y
 cell:∀x v,lk x m=some v→env.kindOf x=some .cell→∃c y,env.cells.lookup x=some c∧h.IsCell c (some y)∧aq I P σ n v y
 there:∀x,env.kindOf x=some .cell→∃c v,env.cells.lookup x=some c∧h.IsCell c v
 free:∀x v,lk x fe.free=some v→env.kindOf x=some .free→∃c y,env.cells.lookup x=some c∧h.IsCell c (some y)∧aq I P σ n v y∧¬aF env c∧∀k,k<n→σ k≠c
 apart:∀b,aF env b→I b=none∧∀k,k<n→σ k≠b
 ne:∀x c,env.kindOf x=some .cell→env.cells.lookup x=some c→c≠env.locals
 inj:∀x y c,env.kindOf x=some .cell→env.kindOf y=some .cell→env.cells.lookup x=some c→env.cells.lookup y=some c→x=y
theorem f9{h h':Heap}(x:h.IsCell c v)(k:∀o,h.get? c=some o→h'.get? c=some o):h'.IsCell c v:=by
 obtain⟨o,ho,hd⟩:=x;exact⟨o,k o ho,hd⟩
theorem av.ext{P:Params}{fe:FE}{m:ai}{env:Env}(l:av P fe m env I σ n h)
  (x:aM P (fun _=>False) I σ n h I' af st' h'):av P fe m env I' af st'.length h':=by
 have kp:∀b o,h.get? b=some o→(∀k,k<n→σ k≠b)→h'.get? b=some o:=fun b o e q=>x.keep b o e (fun f=>f) q;have own:∀b,aF env b→∀o,h.get? b=some o→h'.get? b=some o:=fun b ob o e=>kp b o e (l.apart b ob).2;have live:∀b,aF env b→∃o,h.get? b=some o:=by
  rintro b (rfl|⟨y,hy,hc⟩)
  ·obtain⟨mm,⟨o,_,_,ho,_⟩,_⟩:=l.ns;exact⟨o,ho⟩
  ·obtain⟨c,v,h1,o,ho,_⟩:=l.there y hy;rw[hc]at h1;obtain rfl:=qc h1;exact⟨o,ho⟩
 have zV:∀b o,h.get? b=some o→(∀k,k<n→σ k≠b)→∀k,k<st'.length→af k≠b:=fun b o hb hk k nI=>by
  by_cases q:k<n
  ·rw[x.le.s k q];exact hk k q
  ·intro z;have:=x.new k (qC q) nI;rw[z,hb]at this;cases this
 refine⟨l.scope,l.kind,l.glob,l.blt, ?_,fun y v e hk=> ?_,fun y hk=> ?_,fun y v e hk=> ?_,fun b hb=>⟨?_,(by obtain⟨o,ho⟩:=live b hb;exact zV b o ho (l.apart b hb).2)⟩,l.ne,l.inj⟩
 ·obtain⟨mm,⟨o,es,ep,ho,r⟩,h2⟩:=l.ns;exact⟨mm,⟨o,es,ep,own _ (.inl rfl) o ho,r⟩,fun y v e hk=>(by obtain⟨z,a,b⟩:=h2 y v e hk;exact⟨z,a,b.mono x.le⟩)⟩
 ·obtain⟨c,z,h1,h2,h3⟩:=l.cell y v e hk;exact⟨c,z,h1,f9 h2 (own c (.inr ⟨y,hk,h1⟩)),h3.mono x.le⟩
 ·obtain⟨c,z,h1,h2⟩:=l.there y hk;exact⟨c,z,h1,f9 h2 (own c (.inr ⟨y,hk,h1⟩))⟩
 ·obtain⟨c,z,h1,h2,h3,h4,h5⟩:=l.free y v e hk;have hc:=h2;obtain⟨o,ho,_⟩:=hc;exact⟨c,z,h1,f9 h2 (fun o e=>kp c o e h5),h3.mono x.le,h4,zV c o ho h5⟩
 ·induction q:I' b using qe with
  |none=>rfl
  |some o=>
   rcases x.fresh b o q with z|z
   ·rw[(l.apart b hb).1]at z;exact nn z
   ·obtain⟨o',ho⟩:=live b hb;rw[z]at ho;exact nn ho
def bw(s s':Shared):Prop:=s'.gens=s.gens∧s'.drawn=s.drawn∧s'.os=s.os
theorem bw.refl(s:Shared):bw s s:=⟨rfl,rfl,rfl⟩
theorem bw.trans(x:bw s s')(y:bw s' wj):bw s wj:=⟨y.1.trans x.1,y.2.1.trans x.2.1,y.2.2.trans x.2.2⟩
structure sL (k:Nat) (A:Around):Prop where
 depth:A.depth+2*k<recursionLimit
 units:A.units+12*k<cLine
 handled:A.handled=none
 guards:A.guards=some []
theorem sL.le(f:sL k A)(h:j≤k):sL j A:=⟨by have:=f.depth;lia,by have:=f.units;lia,f.handled,f.guards⟩
section
variable{P:Params}{st:St}
theorem cF.live(r:cF P I σ st h)(hk:k<st.length):∃o,h.get? (σ k)=some o:=by
 obtain⟨ob,h1,_⟩:=r.cells k st[k] (qw hk);exact⟨ob,h1⟩
theorem cF.pZ(r:cF P I σ st h)(ha:h.get? a=none):I a=none:=by
 induction q:I a using qe with
 |none=>rfl
 |some o=>have:=r.sub a o q;rw[ha]at this;exact nn this
theorem dD(h:Heap):h.get? h.objs.size=none:=by
 induction q:h.get? h.objs.size using qe with
 |none=>rfl
 |some o=>exact absurd (Heap.lt_size q) (Nat.lt_irrefl _)
theorem cF.OX(r:cF P I σ st h):I h.objs.size=none:=r.pZ (dD h)
theorem aM.grow(r:cF P I σ st h)(k:∀b o,h.get? b=some o→h'.get? b=some o):aM P (fun _=>False) I σ st.length h I σ st h':=
 ⟨Le.refl ..,fun _ _ e=>.inl e,fun _ a b=>absurd a (Nat.not_le.mpr b),
  ⟨fun b x e=>k _ _ (r.sub b x e),fun j x e=>(by obtain⟨ob,h1,h2⟩:=r.cells j x e;exact⟨ob,k _ _ h1,h2⟩),r.inj,r.out⟩,
  fun b o e _ _=>k b o e,fun b o e=>⟨o,k b o e⟩⟩
theorem aM.Rr(r:cF P I σ st h)(o:Obj):aM P (fun _=>False) I σ st.length h I σ st (h.push o):=aM.grow r fun _ _ e=>Heap.get?_push_of_some _ e
noncomputable def dW(I:IM)(a:Addr)(o:Obj):IM:=fun b=>if b=a then some o else I b
theorem kX(I:IM)(a:Addr)(o:Obj):dW I a o a=some o:=if_pos rfl
theorem lO(o:Obj)(ha:I a=none):∀b x,I b=some x→dW I a o b=some x:=fun b x e=>by
 unfold dW;by_cases q:b=a
 ·subst q;rw[ha]at e;exact nn e
 ·rw[if_neg q];exact e
theorem eV(e:dW I a o b=some x):(b=a∧x=o)∨(b≠a∧I b=some x):=by
 unfold dW at e;by_cases q:b=a
 ·rw[if_pos q]at e;obtain rfl:=qc e;exact .inl ⟨q,rfl⟩
 ·rw[if_neg q]at e;exact .inr ⟨q,e⟩
theorem aM.DY(r:cF P I σ st h)(k:∀b o,h.get? b=some o→h'.get? b=some o)(ha:h.get? a=none)(g:h'.get? a=some o):aM P (fun _=>False) I σ st.length h (dW I a o) σ st h':=by
 have le:=lO o (r.pZ ha);refine⟨⟨le,fun _ _=>rfl,qf _⟩,fun b x e=> ?_,fun _ a b=>absurd a (Nat.not_le.mpr b),
  ⟨fun b x e=> ?_,fun j x e=>(by obtain⟨ob,h1,h2⟩:=r.cells j x e;exact⟨ob,k _ _ h1,h2.mono ⟨le,fun _ _=>rfl,qf _⟩⟩),r.inj,fun j hj=> ?_⟩,
  fun b o e _ _=>k b o e,fun b o e=>⟨o,k b o e⟩⟩
 ·rcases eV e with⟨rfl,_⟩|⟨_,q⟩
  ·exact .inr ha
  ·exact .inl q
 ·rcases eV e with⟨rfl,rfl⟩|⟨_,q⟩
  ·exact g
  ·exact k _ _ (r.sub b x q)
 ·unfold dW;rw[if_neg]
  ·exact r.out j hj
  ·rintro z;obtain⟨o',ho⟩:=r.live hj;rw[z,ha]at ho;exact nn ho
theorem aM.Y9(r:cF P I σ st h)(ho:o.isFreed=false):aM P (fun _=>False) I σ st.length h (dW I h.objs.size o) σ st (h.push o):=
 aM.DY r (fun _ _ e=>Heap.get?_push_of_some _ e) (dD h) (Heap.get?_push_size _ ho)
noncomputable def gj(σ:Nat→Addr)(n:Nat)(a:Addr):Nat→Addr:=fun k=>if k=n then a else σ k
theorem eH(σ:Nat→Addr)(n:Nat)(a:Addr):gj σ n a n=a:=if_pos rfl
theorem jz(a:Addr)(h:k<n):gj σ n a k=σ k:=if_neg (Nat.ne_of_lt h)
theorem Bt(I:IM)(σ:Nat→Addr)(n:Nat)(a:Addr):Le I I σ (gj σ n a) n (n+1):=⟨fun _ _ e=>e,fun _ h=>jz a h,qK _⟩
theorem aM.Bu(r:cF P I σ st h)(kp:∀b o,h.get? b=some o→h'.get? b=some o)(ha:h.get? a=none)(g:h'.get? a=some o)(hr:dw I P (gj σ st.length a) (st.length+1) ao o):
  aM P (fun _=>False) I σ st.length h I (gj σ st.length a) (st++[ao]) h':=by
 have ln:(st++[ao]).length=st.length+1:=by exact List.length_append
 have ne:∀j,j<st.length→σ j≠a:=fun j hj z=>by
  obtain⟨o',ho⟩:=r.live hj;rw[z,ha]at ho;exact nn ho
 refine⟨ln▸Bt ..,fun _ _ e=>.inl e,fun k a b=> ?_,⟨fun b x e=>kp _ _ (r.sub b x e),fun k x e=> ?_,fun j k hj hk e=> ?_,fun k hk=> ?_⟩,
  fun b o e _ _=>kp b o e,fun b o e=>⟨o,kp b o e⟩⟩
 ·rw[ln]at b;have:k=st.length:=by lia
  subst this;rw[eH];exact ha
 ·rw[ln];by_cases q:k<st.length
  ·rw[qB q]at e;obtain⟨ob,h1,h2⟩:=r.cells k x e;exact⟨ob,by rw[jz _ q];exact kp _ _ h1,h2.mono (Bt ..)⟩
  ·have hk:k<(st++[ao]).length:=(List.getElem?_eq_some_iff.mp e).1;rw[ln]at hk;have:k=st.length:=by lia
   subst this;rw[qx (qf _),Nat.sub_self]at e;obtain rfl:=qc e;exact⟨o,by rw[eH];exact g,hr⟩
 ·rw[ln]at hj hk;by_cases p:j<st.length
  ·by_cases q:k<st.length
   ·rw[jz _ p,jz _ q]at e;exact r.inj j k p q e
   ·have:k=st.length:=by lia
    subst this;rw[jz _ p,eH]at e;exact absurd e (ne j p)
  ·have:j=st.length:=by lia
   subst this;by_cases q:k<st.length
   ·rw[jz _ q,eH]at e;exact absurd e.symm (ne k q)
   ·lia
 ·rw[ln]at hk;by_cases q:k<st.length
  ·rw[jz _ q];exact r.out k q
  ·have:k=st.length:=by lia
   subst this;rw[eH];exact r.pZ ha
theorem aM.zW(r:cF P I σ st h)(ho:o.isFreed=false)(hr:dw I P (gj σ st.length h.objs.size) (st.length+1) ao o):
  aM P (fun _=>False) I σ st.length h I (gj σ st.length h.objs.size) (st++[ao]) (h.push o):=
 aM.Bu r (fun _ _ e=>Heap.get?_push_of_some _ e) (dD h) (Heap.get?_push_size _ ho) hr
theorem aM.upd(r:cF P I σ st h)(hk:k<st.length)(hb:h.get? (σ k)=some ob)(hf:(f ob).isFreed=false)(hr:dw I P σ st.length ao (f ob)):
  aM P (fun _=>False) I σ st.length h I σ (st.set k ao) (h.update (σ k) f):=by
 have ln:(st.set k ao).length=st.length:=by simp
 have ne:∀b,b≠σ k→(h.update (σ k) f).get? b=h.get? b:=fun b hb=>Heap.get?_update_other h f (Ne.symm hb);have io:∀b x,I b=some x→b≠σ k:=fun b x e q=>by rw[q,r.out k hk]at e;exact nn e
 refine⟨ln▸Le.refl ..,fun _ _ e=>.inl e,fun j a b=>absurd a (Nat.not_le.mpr (ln▸b)),⟨fun b x e=>(ne b (io b x e)).trans (r.sub b x e),fun j x e=> ?_,fun i j hi hj e=>r.inj i j (ln▸hi) (ln▸hj) e,fun j hj=>r.out j (ln▸hj)⟩,
  fun b x e _ q=>(ne b (fun z=>q k hk z.symm)).trans e,fun b o e=> ?_⟩
 ·rw[ln];rw[List.getElem?_set]at e;by_cases q:k=j
  ·subst q;rw[if_pos rfl,if_pos hk]at e;obtain rfl:=qc e;exact⟨f ob,Heap.get?_update_self f hb hf,hr⟩
  ·rw[if_neg q]at e;obtain⟨oj,h1,h2⟩:=r.cells j x e;have hj:j<st.length:=(List.getElem?_eq_some_iff.mp e).1;exact⟨oj,(ne _ fun z=>q (r.inj j k hj hk z).symm).trans h1,h2⟩
 ·by_cases q:b=σ k
  ·exact⟨f ob,by rw[q];exact Heap.get?_update_self f hb hf⟩
  ·exact⟨o,(ne b q).trans e⟩
theorem aM.own(r:cF P I σ st h)(ha:I a=none)(hs:∀k,k<st.length→σ k≠a)(e:Heap.SameBut a h h')(ho:h'.get? a=some o'):aM P (fun b=>b=a) I σ st.length h I σ st h':=by
 have io:∀b x,I b=some x→b≠a:=fun b x e q=>by rw[q,ha]at e;exact nn e
 refine⟨Le.refl ..,fun _ _ e=>.inl e,fun _ a b=>absurd a (Nat.not_le.mpr b),
  ⟨fun b x q=>(e.2 b (io b x q)).trans (r.sub b x q),fun j x q=>(by obtain⟨oj,h1,h2⟩:=r.cells j x q;exact⟨oj,(e.2 _ (hs j (List.getElem?_eq_some_iff.mp q).1)).trans h1,h2⟩),r.inj,r.out⟩,
  fun b x q hx _=>(e.2 b hx).trans q,fun b o q=> ?_⟩
 by_cases z:b=a
 ·exact⟨o',by rw[z];exact ho⟩
 ·exact⟨o,(e.2 b z).trans q⟩
end
section
variable(cx:Cx)
noncomputable abbrev Cx.M:Model:=model cx.prog cx.w
noncomputable abbrev Cx.P:Params:=cx.w.params
structure au (k:Nat) (A:Around) (I:IM) (σ:Nat→Addr) (st:St) (s:Shared):Prop where
 fit:sL k A
 base:iJ cx I
 rel:cF cx.P I σ st s.heap
end
def Ends{β α:Type}(cx:Cx)(X:Addr→Prop)(I:IM)(σ:Nat→Addr)(n:Nat)(s:Shared)(R:IM→(Nat→Addr)→St→β→α→SP)(Q:α→SP):β×St→Prop:=
 fun p=>∀I' af y s',aM cx.P X I σ n s.heap I' af p.2 s'.heap→bw s s'→R I' af p.2 p.1 y s'→Q y s'
noncomputable abbrev RV(cx:Cx):IM→(Nat→Addr)→St→V→dS:=fun I σ st v y _=>aq I cx.P σ st.length v y
theorem au.go{σ af:Nat→Addr}{st st':St}{s s':Shared}{X:Addr→Prop}(H:au cx k A I σ st s)(x:aM cx.P X I σ st.length s.heap I' af st' s'.heap):au cx k A I' af st' s':=
 ⟨H.fit,H.base.mono x.le.i,x.rel⟩
theorem Ends.into{β α:Type}{cx:Cx}{X:Addr→Prop}{I I':IM}{σ af:Nat→Addr}{n:Nat}{s s':Shared}{st':St}{R:IM→(Nat→Addr)→St→β→α→SP}{Q:α→SP}{p:β×St}
  (e:Ends cx X I σ n s R Q p)(x:aM cx.P X I σ n s.heap I' af st' s'.heap)(y:bw s s'):Ends cx X I' af st'.length s' R Q p:=
 fun rH oF v wj a b c=>e rH oF v wj (x.trans a) (y.trans b) c
noncomputable def Bv(cx:Cx)(fe:FE)(m:ai)(x:Str):Option V:=
 match lk x fe.scope.names with
 |some .local=>lk x m
 |some .cell=>lk x m
 |some .free=>match seq x "__classdict__"with
  |true=>none
  |false=>lk x fe.free
 |some .globalImplicit=>lk x cx.tab.glob
 |_=>none
theorem wk(l:av P fe m env I σ n h)(x:Str):env.kindOf x=lk x fe.scope.names:=by
 unfold Env.kindOf;rw[l.scope,xH]
section
variable{st:St}{env:Env}
theorem Lv(H:au cx k A I σ st s)(l:av cx.P fe m env I σ st.length s.heap)(e:Bv cx fe m x=some v)
  (h:∀y,aq I cx.P σ st.length v y→Q y s):wpAny cx.M A (loadName env x) Q E s:=by
 have hk:env.scope.kind=.function:=by rw[l.scope];exact l.kind
 have kx:=wk l x;rw[Bv]at e;induction q:lk x fe.scope.names using qe with
 |none=>rw[q]at e;exact nn e
 |some kk=>
  rw[q]at e kx;induction kk using PySem.NameKind.casesOn with
  |«local»=>exact let⟨mm,hn,hm⟩:=l.ns;let⟨y,hy,r⟩:=hm x v e kx;wpAny_loadName_local hk kx hn hy (h y r)
  |cell=>exact let⟨c,y,hc,hy,r⟩:=l.cell x v e kx;wpAny_loadName_cell hk kx hc hy (h y r)
  |free=>
   dsimp only at e;induction ne:seq x "__classdict__"using qd with
   |true=>rw[ne]at e;exact nn e
   |false=>rw[ne]at e;exact let⟨c,y,hc,hy,r,_⟩:=l.free x v e kx;wpAny_loadName_free hk kx hc hy (h y r) (beq_eq_false_iff_ne.mpr (iE.mp ne))
  |globalImplicit=>
   obtain⟨mg,mb,g1,g2,g3⟩:=H.base.glob;obtain⟨y,hy,r⟩:=g3 x v e;have r':=h y (r.mono (Le.zero fun _ _ e=>e));have g1:=g1.ns H.rel.sub;rw[←l.glob]at g1;rw[loadName_read hk kx];rcases hy with hy|⟨h1,h2⟩
   ·exact loadGlobal_global g1 hy r'
   ·exact loadGlobal_builtin g1 h1 (by rw[l.blt];exact g2.ns H.rel.sub) h2 r'
  |_=>exact nn e
noncomputable def rL(fe:FE)(x:Str):Bool:=match lk x fe.scope.names with
 |some .local=>true
 |some .cell=>true
 |_=>false
theorem Lw(hk:env.scope.kind=.function):(env.scope.kind==.class||(env.scope.kind==.module&&env.locals !=env.globals))=false:=by rw[hk];rfl
theorem zX(hz:lk z (put x v m)=some u):(z=x∧v=u)∨(z≠x∧lk z m=some u):=by
 rw[VG]at hz;by_cases q:z=x
 ·rw[if_pos q]at hz;exact .inl ⟨q,qc hz⟩
 ·rw[if_neg q]at hz;exact .inr ⟨q,hz⟩
theorem yC(H:au cx k A I σ st s)(l:av cx.P fe m env I σ st.length s.heap)(e:lk x fe.scope.names=some .local)
  (r:aq I cx.P σ st.length v y)
  (h:∀s',aM cx.P (fun b=>b=env.locals) I σ st.length s.heap I σ st s'.heap→bw s s'→av cx.P fe (put x v m) env I σ st.length s'.heap→Q () s'):
  wpAny cx.M A (storeName env x y) Q E s:=by
 have kx:=(wk l x).trans e;obtain⟨mm,hn,hm⟩:=l.ns;refine wpAny_storeName_local kx hn (fun h' kY hs=> ?_) (Lw (by rw[l.scope];exact l.kind));have ap:=l.apart env.locals (.inl rfl);have kp:∀{c:Addr} {w:Option Value},c≠env.locals→s.heap.IsCell c w→h'.IsCell c w:=fun hc h=>f9 h fun o e=>(hs.2 _ hc).trans e;refine h {s with heap:=h',toks:=s.toks+1} (aM.own H.rel ap.1 ap.2 hs kY.choose_spec.choose_spec.choose_spec.1) ⟨rfl,rfl,rfl⟩
  ⟨l.scope,l.kind,l.glob,l.blt,⟨_,kY,fun z u hz kz=> ?_⟩,fun z u hz kz=> ?_,fun z kz=> ?_,fun z u hz kz=> ?_,l.apart,l.ne,l.inj⟩
 ·rcases zX hz with⟨q,e⟩|⟨q,hz⟩
  ·exact⟨y,if_pos q,e▸r⟩
  ·exact let⟨w,a,b⟩:=hm z u hz kz;⟨w,(if_neg q).trans a,b⟩
 ·rcases zX hz with⟨q,e⟩|⟨q,hz⟩
  ·rw[q,kx]at kz;cases kz
  ·exact let⟨c,w,h1,h2,h3⟩:=l.cell z u hz kz;⟨c,w,h1,kp (l.ne z c kz h1) h2,h3⟩
 ·exact let⟨c,w,h1,h2⟩:=l.there z kz;⟨c,w,h1,kp (l.ne z c kz h1) h2⟩
 ·exact let⟨c,w,h1,h2,h3,h4,h5⟩:=l.free z u hz kz;⟨c,w,h1,kp (fun z=>h4 (.inl z)) h2,h3,h4,h5⟩
theorem II(H:au cx k A I σ st s)(l:av cx.P fe m env I σ st.length s.heap)(e:lk x fe.scope.names=some .cell)
  (r:aq I cx.P σ st.length v y)
  (h:∀s',aM cx.P (aF env) I σ st.length s.heap I σ st s'.heap→bw s s'→av cx.P fe (put x v m) env I σ st.length s'.heap→Q () s'):
  wpAny cx.M A (storeName env x y) Q E s:=by
 have kx:=(wk l x).trans e;obtain⟨c,ads,hc,hv⟩:=l.there x kx;refine wpAny_storeName_cell (by rw[l.scope];exact l.kind) kx hc hv fun h' VH hs=> ?_;have oc:aF env c:=.inr ⟨x,kx,hc⟩;have ap:=l.apart c oc;have kp:∀{d:Addr} {w:Option Value},d≠c→s.heap.IsCell d w→h'.IsCell d w:=fun hc h=>f9 h fun o e=>(hs.2 _ hc).trans e;have nc:∀{z:Str} {d:Addr},z≠x→env.kindOf z=some .cell→env.cells.lookup z=some d→d≠c:=fun q kz h1 z=>q (l.inj _ x _ kz kx h1 (z▸hc));refine h {s with heap:=h'} ((aM.own H.rel ap.1 ap.2 hs VH.choose_spec.1).weaken fun b e=>e▸oc) ⟨rfl,rfl,rfl⟩
  ⟨l.scope,l.kind,l.glob,l.blt, ?_,fun z u hz kz=> ?_,fun z kz=> ?_,fun z u hz kz=> ?_,l.apart,l.ne,l.inj⟩
 ·obtain⟨mm,hn,hm⟩:=l.ns;refine⟨mm,hn.sameBut hs fun z=>l.ne x c kx hc z.symm,fun z u hz kz=> ?_⟩;rcases zX hz with⟨q,e⟩|⟨q,hz⟩
  ·rw[q,kx]at kz;cases kz
  ·exact hm z u hz kz
 ·rcases zX hz with⟨q,e⟩|⟨q,hz⟩
  ·exact⟨c,y,q▸hc,VH,e▸r⟩
  ·exact let⟨d,w,h1,h2,h3⟩:=l.cell z u hz kz;⟨d,w,h1,kp (nc q kz h1) h2,h3⟩
 ·by_cases q:z=x
  ·exact⟨c,_,q▸hc,VH⟩
  ·exact let⟨d,w,h1,h2⟩:=l.there z kz;⟨d,w,h1,kp (nc q kz h1) h2⟩
 ·exact let⟨d,w,h1,h2,h3,h4,h5⟩:=l.free z u hz kz;⟨d,w,h1,kp (fun z=>h4 (z▸oc)) h2,h3,h4,h5⟩
theorem p5(H:au cx k A I σ st s)(l:av cx.P fe m env I σ st.length s.heap)(e:rL fe x=true)
  (r:aq I cx.P σ st.length v y)
  (h:∀s',aM cx.P (aF env) I σ st.length s.heap I σ st s'.heap→bw s s'→av cx.P fe (put x v m) env I σ st.length s'.heap→Q () s'):
  wpAny cx.M A (storeName env x y) Q E s:=by
 rw[rL]at e;induction q:lk x fe.scope.names using qe with
 |none=>rw[q]at e;exact ft e
 |some kk=>
  rw[q]at e;induction kk using PySem.NameKind.casesOn with
  |«local»=>exact yC H l q r fun s' x=>h s' (x.weaken fun b e=>.inl e)
  |cell=>exact II H l q r h
  |_=>exact ft e
end
noncomputable def di{α:Type}:List α→Nat→Option α
 |[],_=>none
 |x::l,n=>match n with
  |0=>some x
  |n+1=>di l n
theorem gI{α:Type}:∀(l:List α) (n:Nat),di l n=l[n]?
 |[],_=>rfl
 |_::_,0=>rfl
 |_::l,n+1=>gI l n
noncomputable def cD{α:Type}:List α→Nat→α→List α
 |[],_,_=>[]
 |x::l,n,y=>match n with
  |0=>y::l
  |n+1=>x::cD l n y
theorem eK{α:Type}:∀(l:List α) (n:Nat) (y:α),cD l n y=l.set n y
 |[],_,_=>rfl
 |_::_,0,_=>rfl
 |x::l,n+1,y=>congrArg (x::·) (eK l n y)
noncomputable def len{α:Type}:List α→Nat
 |[]=>0
 |_::l=>Nat.succ (len l)
theorem i7{α:Type}:∀l:List α,len l=l.length
 |[]=>rfl
 |_::l=>congrArg Nat.succ (i7 l)
section
theorem sM(x y:Str)(t:Tok):(Value.str y t).isStr x=seq x y:=by
 show(y==x)=seq x y;induction q:seq x y using qd with
 |true=>exact beq_iff_eq.mpr (gA.mp q).symm
 |false=>exact beq_eq_false_iff_ne.mpr (iE.mp q).symm
theorem bF.noRef:∀{es:List DictEntry},bF I P σ n fs es→es.any (·.refKey)=false:=by
 induction fs with
 |nil=>intro es h;replace h:=h.inv;subst h;rfl
 |cons a fs ih=>intro es h;replace h:=h.inv;induction h using gh.casesOn with|mk h r=>rw[List.any_cons,ih r];rfl
theorem OY(hr:es.any (·.refKey)=false)(q:seq x m=true):getL x (⟨hs,.str m t,z⟩::es)=some (some z):=by
 unfold getL;rw[List.find?_cons,sM,List.any_cons,hr,q]
theorem Lx(q:seq x m=false):getL x (⟨hs,.str m t,z⟩::es)=getL x es:=by
 unfold getL;rw[List.find?_cons,sM,List.any_cons,q];rfl
theorem bF.find(x:Str):∀{es:List DictEntry},bF I P σ n fs es→
  (∀v,lk x fs=some v→∃y,getL x es=some (some y)∧aq I P σ n v y)∧(lk x fs=none→getL x es=some none):=by
 induction fs with
 |nil=>intro es h;replace h:=h.inv;subst h;exact⟨fun v e=>nn e,fun _=>rfl⟩
 |cons a fs ih=>
  intro es h;replace h:=h.inv;induction h using gh.casesOn with
  |mk h r=>
   induction q:seq x a.1 using qd with
   |true=>rw[rJ q];exact⟨fun v e=>⟨_,OY (bF.noRef r) q,qc e▸h⟩,fun e=>ns e⟩
   |false=>rw[nh q,Lx q];exact ih r
theorem bF.put(hy:aq I P σ n v y):∀{es:List DictEntry},bF I P σ n fs es→
  bF I P σ n (Mine.Internal.put x v fs) (putL x (PyData.keyHash P x) (.str x t) y es):=by
 induction fs with
 |nil=>intro es h;replace h:=h.inv;subst h;exact .cons hy .nil
 |cons a fs ih=>
  intro es h;replace h:=h.inv;induction h using gh.casesOn with
  |mk h r=>
   unfold putL;rw[sM];induction q:seq x a.1 using qd with
   |true=>rw[xJ q];exact .cons hy r
   |false=>rw[rK q];exact .cons h (ih r)
theorem bF.length:∀{es:List DictEntry},bF I P σ n fs es→es.length=fs.length:=by
 induction fs with
 |nil=>intro es h;replace h:=h.inv;subst h;rfl
 |cons a fs ih=>intro es h;replace h:=h.inv;induction h using gh.casesOn with|mk h r=>exact congrArg Nat.succ (ih r)
theorem aG.length:∀{xs:LV},aG I P σ n vs xs→xs.length=vs.length:=by
 induction vs with
 |nil=>intro es h;replace h:=h.inv;subst h;rfl
 |cons a fs ih=>intro es h;replace h:=h.inv;induction h using dP.casesOn with|mk h r=>exact congrArg Nat.succ (ih r)
theorem aG.append:∀{xs:LV},aG I P σ n vs xs→aG I P σ n ws ys→aG I P σ n (vs++ws) (xs++ys):=by
 induction vs with
 |nil=>intro es h s;replace h:=h.inv;subst h;exact s
 |cons a fs ih=>intro es h s;replace h:=h.inv;induction h using dP.casesOn with|mk h r=>exact .cons h (ih r s)
theorem aG.di:∀{xs:LV},aG I P σ n vs xs→∀{i:Nat} {v:V},Mine.Internal.di vs i=some v→∃x,xs[i]? =some x∧aq I P σ n v x:=by
 induction vs with
 |nil=>intro es h i v e;exact nn e
 |cons a fs ih=>
  intro es h i v e;replace h:=h.inv;induction h using dP.casesOn with
  |mk h r=>induction i using qk with
   |zero=>exact⟨_,rfl,qc e▸h⟩
   |succ i=>exact ih r e
end
noncomputable def oh{α:Type}(a:Addr):List (Addr×α)→Option α
 |[]=>none
 |p::l=>mX (Nat.beq a p.1) (some p.2) (oh a l)
theorem ri{α:Type}{a:Addr}{l:List (Addr×α)}{x:α}(e:oh a l=some x):(a,x)∈l:=by
 induction l with
 |nil=>exact nn e
 |cons p l ih=>exact jj e (fun q e=>by rw[qt q,←qc e];exact .head _) fun _ e=>.tail _ (ih e)
theorem zY{α:Type}{a:Str}{l:List (Str×α)}{x:α}(e:lk a l=some x):(a,x)∈l:=by
 induction l with
 |nil=>exact nn e
 |cons p l ih=>exact jj e (fun q e=>by rw[gA.mp q,←qc e];exact .head _) fun _ e=>.tail _ (ih e)
theorem ug.ak{K:Frag}{T:DX}(t:ug K T){C:Addr}{l:List (Str×AK)}{x:Str}{r:AK}(h1:oh C T.attrs=some l)(h2:lk x l=some r):wh K C x r=true:=by
 have a:=List.all_eq_true.mp t.attrs (C,l) (ri h1);dsimp only at a;exact List.all_eq_true.mp a (x,r) (zY h2)
theorem ug.ca{K:Frag}{T:DX}(t:ug K T){C:Addr}{l:List (Str×Addr)}{x:Str}{r:Addr}(h1:oh C T.clsAt=some l)(h2:lk x l=some r):G4 K C x r=true:=by
 have a:=List.all_eq_true.mp t.clsAt (C,l) (ri h1);dsimp only at a;exact List.all_eq_true.mp a (x,r) (zY h2)
noncomputable def AO.Ly:AO→Option (Addr×Nat):=fun o=>match o with
 |.inst C d=>some (C,d)
 |.list _ _=>none
 |.dict _=>none
noncomputable def AO.Lz:AO→Option (ai):=fun o=>match o with
 |.dict fs=>some fs
 |.inst _ _=>none
 |.list _ _=>none
noncomputable def AO.LA:AO→Option (LV×List V):=fun o=>match o with
 |.list p vs=>some (p,vs)
 |.inst _ _=>none
 |.dict _=>none
theorem AO.LB{o:AO}(e:o.Ly=some (C,d)):o=.inst C d:=by induction o using AO.casesOn<;>cases e;rfl
theorem AO.LC{o:AO}(e:o.Lz=some fs):o=.dict fs:=by induction o using AO.casesOn<;>cases e;rfl
theorem AO.LD{o:AO}(e:o.LA=some (p,vs)):o=.list p vs:=by induction o using AO.casesOn<;>cases e;rfl
noncomputable def nJ(st:St)(k:Nat):Option (Addr×Nat):=match di st k with
 |some o=>o.Ly
 |none=>none
noncomputable def dictAt(st:St)(k:Nat):Option (ai):=match di st k with
 |some o=>o.Lz
 |none=>none
noncomputable def listAt(st:St)(k:Nat):Option (LV×List V):=match di st k with
 |some o=>o.LA
 |none=>none
theorem LF{st:St}{k:Nat}(e:nJ st k=some (C,d)):st[k]? =some (.inst C d):=by
 unfold nJ at e;rw[gI]at e;induction q:st[k]? using qe with
 |none=>rw[q]at e;exact nn e
 |some o=>rw[q]at e;rw[AO.LB e]
theorem pA{st:St}(e:dictAt st k=some fs):st[k]? =some (.dict fs):=by
 unfold dictAt at e;rw[gI]at e;induction q:st[k]? using qe with
 |none=>rw[q]at e;exact nn e
 |some o=>rw[q]at e;rw[AO.LC e]
theorem listAt_eq{st:St}{k:Nat}(e:listAt st k=some (p,vs)):st[k]? =some (.list p vs):=by
 unfold listAt at e;rw[gI]at e;induction q:st[k]? using qe with
 |none=>rw[q]at e;exact nn e
 |some o=>rw[q]at e;rw[AO.LD e]
noncomputable def fieldsOf(st:St)(v:V):Option (Addr×ai):=match v with
 |.inst C fs=>some (C,fs)
 |.loc k=>match nJ st k with
  |some (C,d)=>match dictAt st d with
   |some fs=>some (C,fs)
   |none=>none
  |none=>none
 |_=>none
section
variable{cx:Cx}{st:St}
theorem cF.nJ(r:cF cx.P I σ st h){k:Nat}(e:Mine.Internal.nJ st k=some (C,d)):d<st.length∧h.get? (σ k)=some {cls:=.ref C,dict:=some (σ d),data:=.plain}:=by
 obtain⟨ob,h1,h2⟩:=r.cells k _ (LF e);induction h2.inv using rI.casesOn
 exact⟨by assumption,h1⟩
theorem cF.dictAt(r:cF cx.P I σ st h){k:Nat}(e:Mine.Internal.dictAt st k=some fs):∃es ep,h.get? (σ k)=some (dictOf es ep)∧bF I cx.P σ st.length fs es:=by
 obtain⟨ob,h1,h2⟩:=r.cells k _ (pA e);induction h2.inv using kW.casesOn
 exact⟨_,_,h1,by assumption⟩
theorem cF.listAt(r:cF cx.P I σ st h){k:Nat}(e:Mine.Internal.listAt st k=some (p,vs)):
  ∃xs ep,h.get? (σ k)=some {cls:=.type "list",data:=.seq (p++xs).toArray ep}∧aG I cx.P σ st.length vs xs∧p.length≤100000:=by
 obtain⟨ob,h1,h2⟩:=r.cells k _ (listAt_eq e);induction h2.inv using j7.casesOn
 exact⟨_,_,h1,by assumption,by assumption⟩
theorem Bw(r:cF cx.P I σ st h)(hv:aq I cx.P σ st.length v y)(e:fieldsOf st v=some (C,fs)):
  ∃a es ep d,y=.ref a∧InstAt h a {cls:=.ref C,dict:=some d,data:=.plain} C (some (dictOf es ep))∧bF I cx.P σ st.length fs es:=by
 have q:=hv.inv;clear hv;induction v using V.casesOn with
 |inst C' Z9=>
  obtain⟨rfl,rfl⟩:=oB e;induction q using pX.casesOn with|mk g1 g2 rf=>exact⟨_,_,_,_,rfl,⟨r.sub _ _ g1,rfl,rfl,r.sub _ _ g2⟩,rf.up⟩
 |loc k=>
  induction q using iH.casesOn
  unfold fieldsOf at e;dsimp only at e;induction q1:Mine.Internal.nJ st k using qe with
  |none=>rw[q1]at e;exact nn e
  |some p=>
   rw[q1]at e;dsimp only at e;induction q2:Mine.Internal.dictAt st p.2 using qe with
   |none=>rw[q2]at e;exact nn e
   |some Z9=>
    rw[q2]at e;obtain⟨rfl,rfl⟩:=oB e;obtain⟨es,ep,g1,g2⟩:=r.dictAt q2;exact⟨σ k,es,ep,σ p.2,rfl,⟨(r.nJ q1).2,rfl,rfl,g1⟩,g2⟩
 |_=>exact nn e
end
section
theorem bR(h:∀y,aq I P σ n a y→aq I' P af n' b y)(t:∀es,bF I P σ n vs es→bF I' P af n' eu es)(es:List DictEntry)(r:bF I P σ n ((k,a)::vs) es):bF I' P af n' ((k,b)::eu) es:=by
 replace r:=r.inv;induction r using gh.casesOn with|mk h1 r=>exact .cons (h _ h1) (t _ r)
theorem LG(es:List DictEntry)(r:bF I P σ n [] es):bF I' P af n' [] es:=r
theorem fU(y:Value)(r:aq I P σ n (.top a) y):aq I' P af n' (.top a) y:=by cases r.inv;exact .top _
theorem j8(h:aq I' P af n' b v)(y:Value)(r:aq I P σ n (.aL v) y):aq I' P af n' b y:=by cases r.inv;exact h
end
noncomputable def V.handed:V→Bool:=fun v=>match v with
 |.bi _=>false
 |.aL _=>false
 |_=>true
theorem IJ(r:aq I P σ n v y)(h:v.handed=true):handedIn y=true:=by
 have q:=r.inv;clear r;induction v using V.casesOn with
 |bi=>exact ft h
 |aL=>exact ft h
 |_=>cases q;rfl
noncomputable def OZ(cx:Cx)(C:Addr)(x:Str):Option AK:=cC (oh C cx.tab.T.attrs) fun l=>lk x l
theorem Rt(b:iJ cx I)(e:OZ cx C x=some r):wh cx.tab.K C x r=true:=aK e fun _ q e=>b.tabs.ak q e
noncomputable def AK.isPlain:AK→Option Unit:=fun a=>match a with
 |.plain=>some ()
 |.zg _=>none
noncomputable def AK.fn:AK→Option Addr:=fun a=>match a with
 |.plain=>none
 |.zg f=>some f
noncomputable def IK{α:Type}:Option α→Bool:=fun o=>match o with
 |some _=>true
 |none=>false
theorem LH{α:Type}{o:Option α}(e:IK o=true):∃x,o=some x:=by
 induction o using qe with
 |none=>exact ft e
 |some x=>exact⟨x,rfl⟩
noncomputable def Bx(cx:Cx)(C:Addr)(x:Str):Bool:=IK (cC (OZ cx C x) AK.isPlain)
noncomputable def LI(cx:Cx)(C:Addr)(x:Str):Option Addr:=cC (OZ cx C x) AK.fn
theorem DZ{cx:Cx}{I:IM}(b:iJ cx I){C:Addr}{x:Str}(e:Bx cx C x=true):wh cx.tab.K C x .plain=true:=by
 obtain⟨_,e⟩:=LH e;refine aK e fun k q e=> ?_;induction k using AK.casesOn with
 |plain=>exact Rt b q
 |zg=>exact nn e
theorem Th(b:iJ cx I)(e:LI cx C x=some f):wh cx.tab.K C x (.zg f)=true:=by
 refine aK e fun k q e=> ?_;induction k using AK.casesOn with
 |plain=>exact nn e
 |zg g=>exact Rt b (qc e▸q)
noncomputable def zh(cx:Cx)(st:St)(v:V)(x:Str):Option V:=cC (fieldsOf st v) fun p=>fH (Bx cx p.1 x) (cC (lk x p.2) fun u=>fH u.handed (some u))
noncomputable def Ti(cx:Cx)(C:Addr)(x:Str):Option Addr:=cC (oh C cx.tab.T.clsAt) fun l=>lk x l
noncomputable def zj(x:Str):Option BI:=lk x [("append",.append),("extend",.extend),("pop",.pop)]
noncomputable def uS(x:Str):Option BI:=lk x [("get",.IE),("update",.Br)]
noncomputable def i8:Bool→Bool:=fun b=>match b with
 |true=>false
 |false=>true
theorem wu(b:Bool):(!b)=i8 b:=by induction b using qd<;>rfl
noncomputable def zk(cx:Cx)(st:St)(v:V)(x:Str):Option (V×List V):=cC (fieldsOf st v) fun p=>cC (LI cx p.1 x) fun f=>fH (i8 (IK (lk x p.2))) (some (.top f,[v]))
noncomputable def wz(v:V)(o:Option BI):Option (V×List V):=cC o fun i=>some (.bi i,[v])
noncomputable def oG(cx:Cx)(st:St)(v:V)(x:Str):Option (V×List V):=match v with
 |.top C=>cC (Ti cx C x) fun f=>some (.top f,[])
 |.inst _ _=>zk cx st v x
 |.fB _=>wz v (uS x)
 |.loc k=>match listAt st k with
  |some _=>wz v (zj x)
  |none=>match dictAt st k with
   |some _=>wz v (uS x)
   |none=>zk cx st v x
 |_=>none
section
variable{cx:Cx}{st:St}
theorem D0(H:au cx k A I σ st s)(hv:aq I cx.P σ st.length v y)(e:zh cx st v x=some u)
  (h:∀z,aq I cx.P σ st.length u z→Q z {s with toks:=s.toks+1}):wpAny cx.M A (getAttr y x expr) Q E s:=by
 refine aK e fun p q e=>aK (cW e) fun u' hu e'=> ?_;obtain rfl:=qc (cW e');obtain⟨a,es,ep,d,rfl,ia,rf⟩:=Bw H.rel hv q;have ok:=DZ H.base (cP e);simp only[wh,Bool.and_eq_true,beq_iff_eq]at ok;obtain⟨z,hz,rz⟩:=(rf.find x).1 u' hu;exact get_value (H.base.zU H.rel.sub) ia (plainGet_of ok.1.1.1.1).1 (findObj_own ok.1.1.1.2 ok.1.1.2 rfl hz) (IJ rz (cP e')) (h z rz)
theorem uh{α:Type}{x y:Str}{a r:α}{l:List (Str×α)}{G:Prop}(e:lk x ((y,a)::l)=some r)(h1:x=y→r=a→G)(h2:lk x l=some r→G):G:=by
 exact jj (b:=seq x y) e (fun q e=>h1 (gA.mp q) (qc e).symm) fun _ e=>h2 e
theorem yD{x:Str}{i:BI}(e:zj x=some i):Slot "list" x i.id∧typeOf (.builtin i.id)=pure (.type "method_descriptor"):=
 uh e (fun a b=>a▸b▸⟨PySem.F.slot_list_append,PySem.F.type_list_append⟩) fun e=>uh e (fun a b=>a▸b▸⟨PySem.F.slot_list_extend,PySem.F.type_list_extend⟩) fun e=>uh e (fun a b=>a▸b▸⟨PySem.F.slot_list_pop,PySem.F.type_list_pop⟩) fun e=>nn e
theorem yE{x:Str}{i:BI}(e:uS x=some i):Slot "dict" x i.id∧typeOf (.builtin i.id)=pure (.type "method_descriptor"):=
 uh e (fun a b=>a▸b▸⟨PySem.F.slot_dict_get,PySem.F.type_dict_get⟩) fun e=>uh e (fun a b=>a▸b▸⟨PySem.F.slot_dict_update,PySem.F.type_dict_update⟩) fun e=>nn e
theorem zZ(H:au cx k A I σ st s)(hv:aq I cx.P σ st.length v y)
  (e:zk cx st v x=some (u,us))(h:∀z zs,aq I cx.P σ st.length u z→aG I cx.P σ st.length us zs→∀t,Q (z,zs) {s with toks:=t}):wpAny cx.M A (getMethod y x pl) Q E s:=by
 refine aK e fun p q e=>aK e fun f hf e=> ?_;obtain⟨rfl,rfl⟩:=oB (cW e);obtain⟨a,es,ep,d,rfl,ia,rf⟩:=Bw H.rel hv q;have ok:=Th H.base hf;simp only[wh,Bool.and_eq_true,beq_iff_eq]at ok;have hz:getL x es=some none:=by
  induction q2:lk x p.2 using qe with
  |none=>exact(rf.find x).2 q2
  |some w=>have:=cP e;rw[q2]at this;exact ft this
 exact method_fn (H.base.zU H.rel.sub) ia (plainGet_of ok.1.1).1 (plainGet_of ok.1.1).2 ok.1.2 (beq_iff_eq.mp ok.2) (by show(lookIn x (dictOf es ep)).map _=_;rw[lookIn_dict,hz];rfl) (h _ _ (.top f) (.cons hv .nil) s.toks)
theorem LJ(hv:aq I cx.P σ st.length v y)(ey:y=.ref a)(g:s.heap.get? a=some o)(ho:o.cls=.type "list")(hd:o.dict=none)
  (e:wz v (zj x)=some (u,us))(h:∀z zs,aq I cx.P σ st.length u z→aG I cx.P σ st.length us zs→∀t,Q (z,zs) {s with toks:=t}):wpAny cx.M A (getMethod y x pl) Q E s:=by
 subst ey;refine aK e fun i hi e=> ?_;obtain⟨rfl,rfl⟩:=oB e;exact getMethod_builtin (T:="list") ⟨_,g,ho⟩ PySem.F.plainAttrs_list (yD hi).1 (yD hi).2 (fun b e=>by cases e;exact⟨_,g,hd⟩) (h _ _ (.bi i) (.cons hv .nil) s.toks)
theorem Cu(hv:aq I cx.P σ st.length v y)(ey:y=.ref a)(g:s.heap.get? a=some o)(ho:o.cls=.type "dict")(hd:o.dict=none)
  (e:wz v (uS x)=some (u,us))(h:∀z zs,aq I cx.P σ st.length u z→aG I cx.P σ st.length us zs→∀t,Q (z,zs) {s with toks:=t}):wpAny cx.M A (getMethod y x pl) Q E s:=by
 subst ey;refine aK e fun i hi e=> ?_;obtain⟨rfl,rfl⟩:=oB e;exact getMethod_builtin (T:="dict") ⟨_,g,ho⟩ PySem.F.plainAttrs_dict (yE hi).1 (yE hi).2 (fun b e=>by cases e;exact⟨_,g,hd⟩) (h _ _ (.bi i) (.cons hv .nil) s.toks)
theorem VI(h:(a&&b)=true):a=true∧b=true:=by induction a using qd with|true=>exact⟨rfl,h⟩|false=>exact ft h
theorem zm(H:au cx k A I σ st s)(hv:aq I cx.P σ st.length v y)
  (e:oG cx st v x=some (u,us))(h:∀z zs,aq I cx.P σ st.length u z→aG I cx.P σ st.length us zs→∀t,Q (z,zs) {s with toks:=t}):wpAny cx.M A (getMethod y x pl) Q E s:=by
 have iv:=hv.inv;induction v using V.casesOn with
 |top C=>
  refine aK e fun f hf e=>aK hf fun l q hf=> ?_;obtain⟨rfl,rfl⟩:=oB e;have ok:=H.base.tabs.ca q hf;obtain⟨o12,o3⟩:=VI ok;obtain⟨o1,o2⟩:=VI o12;rw[(iv:y=_)];exact method_cls (H.base.zU H.rel.sub) (beq_iff_eq.mp o2) (cls_value (H.base.zU H.rel.sub) o1 (Lu o3) rfl (h _ _ (.top f) .nil _))
 |inst=>exact zZ H hv e h
 |fB fs=>induction iv using tQ.casesOn with|mk hs g rf=>exact Cu hv rfl (H.rel.sub _ _ g) rfl rfl e h
 |loc k'=>
  unfold oG at e;dsimp only at e;induction hl:listAt st k' using qe with
  |some pv=>
   rw[hl]at e;obtain⟨xs,ep,g,_⟩:=H.rel.listAt (p:=pv.1) (vs:=pv.2) hl;exact LJ hv ((by obtain⟨_⟩:=iv;exact rfl)) g rfl rfl e h
  |none=>
   rw[hl]at e;dsimp only at e;induction hd:dictAt st k' using qe with
   |some fs=>
    rw[hd]at e;obtain⟨es,ep,g,_⟩:=H.rel.dictAt hd;exact Cu hv ((by obtain⟨_⟩:=iv;exact rfl)) g rfl rfl e h
   |none=>rw[hd]at e;exact zZ H hv e h
 |_=>exact nn e
noncomputable def zo(cx:Cx)(st:St)(v:V)(x:Str)(u:V):Option St:=match v with
 |.loc k=>cC (nJ st k) fun p=>cC (dictAt st p.2) fun fs=>fH (Bx cx p.1 x) (fH (Nat.blt (len fs) 100) (some (cD st p.2 (.dict (put x u fs)))))
 |_=>none
theorem yF(name:Str)(Ru:Int)(key v:Value):∀es:List DictEntry,(putL name Ru key v es).length≤es.length+1
 |[]=>qf _
 |e::r=>by
  unfold putL
  split
  ·exact qK _
  ·exact Nat.succ_le_succ (yF name Ru key v r)
theorem VJ(g:s.heap.get? a=some (dictOf es ep))(hr:es.any (·.refKey)=false)
  (h:Q () {s with heap:=s.heap.update a (Obj.putName x (PyData.keyHash M.w.params x) (.str x s.toks) v),toks:=s.toks+1}):wpAny M A (nsSet a x v) Q E s:=by
 unfold nsSet;refine wpAny_bind (wpAny_bind (wpAny_askSetting (wpAny_pure (wpAny_bind (wpAny_mkText (wpAny_bind (wpAny_loadPart g ?_)))))));dsimp only;have c:(!es.toArray.any (·.key.isStr x)&&es.toArray.any (·.refKey))=false:=by
  rw[←Array.any_toList (p:=fun e:DictEntry=>e.refKey)];simp only[hr,Bool.and_false]
 rw[aRefKeyMayBeTheName_at,c];exact wpAny_updatePart g h
theorem LK(X:cx.tab.K.In s.heap)(LL:d<st.length)(gi:s.heap.get? (σ kk)=some {cls:=.ref C,dict:=some (σ d),data:=.plain})
  (gd:s.heap.get? (σ d)=some (dictOf es ep))(rf:bF I cx.P σ st.length fs es)(o2:hasDictIn cx.tab.K C=true)(o3:findIn cx.tab.K (.ref C) x=some none)(o4:findIn cx.tab.K (.ref C) "__setattr__"=some (some (.builtin "object.__setattr__")))(o5:plainOver cx.tab.K C=true)
  (lb:fs.length<100)(hu:aq I cx.P σ st.length u z)(R:cF cx.P I σ st s.heap)(h:∀s',aM cx.P (fun _=>False) I σ st.length s.heap I σ (cD st d (.dict (put x u fs))) s'.heap→bw s s'→(cD st d (.dict (put x u fs))).length=st.length→Q () s'):
  wpAny cx.M A (setAttr (.ref (σ kk)) x z) Q E s:=by
 have ia:InstAt s.heap (σ kk) {cls:=.ref C,dict:=some (σ d),data:=.plain} C (some (dictOf es ep)):=⟨gi,rfl,rfl,gd⟩;have tk:takerIn cx.tab.K C x=some none:=by unfold takerIn;rw[o3];rfl
 refine set_plain X ia o4 (osa_open (s:={s with toks:=s.toks+1}) X ia o5 tk fun b=> ?_);dsimp only;obtain⟨cd,hc,VK⟩:=any_some o2;refine wpAny_bind (wpAny_pure (wpAny_bind (wpAny_bind (wpAny_loadPart gi (wpAny_bind (Looks.here (s:={s with toks:=s.toks+1}) (looks_clsIn X hc) ?_))))));rw[VK];refine wpAny_pure (a:=some (σ d)) (wpAny_bind (wpAny_pure (wpAny_bind ?_)));refine VJ (s:={s with toks:=s.toks+1}) gd rf.noRef ?_;have fr:(Obj.putName x (PyData.keyHash cx.w.params x) (.str x (s.toks+1)) z (dictOf es ep)).isFreed=false:=by rw[putName_dict];rfl
 have or:dw I cx.P σ st.length (.dict (put x u fs)) (Obj.putName x (PyData.keyHash cx.w.params x) (.str x (s.toks+1)) z (dictOf es ep)):=by
  rw[putName_dict];exact .dict _ (rf.put hu)
 have ex:=aM.upd R LL gd fr or;have g':=Heap.get?_update_self (Obj.putName x (PyData.keyHash cx.w.params x) (.str x (s.toks+1)) z) gd fr;rw[putName_dict]at g';refine wpAny_bind (wpAny_lookBehind g' (pastItsLine_dict ?_) (wpAny_pure ?_))
 ·have:=yF x (PyData.keyHash cx.w.params x) (.str x (s.toks+1)) z es;have:=rf.length;rw[List.size_toArray,sizeLine_eq];lia
 ·rw[eK]at h;exact h {s with heap:=_,toks:=_} ex ⟨rfl,rfl,rfl⟩ (by simp)
theorem D4(H:au cx k A I σ st s)(hv:aq I cx.P σ st.length v y)(hu:aq I cx.P σ st.length u z)(e:zo cx st v x u=some st')
  (h:∀s',aM cx.P (fun _=>False) I σ st.length s.heap I σ st' s'.heap→bw s s'→st'.length=st.length→Q () s'):wpAny cx.M A (setAttr y x z) Q E s:=by
 have iv:=hv.inv;clear hv;induction v using V.casesOn with
 |loc kk=>
  refine aK e fun p hi e=>aK e fun fs hd e=> ?_;have ok:=DZ H.base (cP e);simp only[wh,Bool.and_eq_true,beq_iff_eq]at ok;have lb:fs.length<100:=by rw[←i7];exact qo (cP (cW e))
  rw[←qc (cW (cW e))]at h;rw[show y=.ref (σ kk)from(by obtain⟨_⟩:=iv;exact rfl)];have X:=H.base.zU H.rel.sub;have gi:=H.rel.nJ (C:=p.1) (d:=p.2) hi;obtain⟨es,ep,gd,rf⟩:=H.rel.dictAt hd;exact LK X gi.1 gi.2 gd rf ok.1.1.1.2 ok.1.1.2 ok.1.2 ok.2 lb hu H.rel h
 |_=>exact nn e
end
section
variable{cx:Cx}{st:St}
theorem kh{ep:Nat}{f:Array Value→Array Value}{t:Nat}{Q:SP}(H:au cx k A I σ st s)(e:listAt st l=some (p,vs))
  (g:s.heap.get? (σ l)=some {cls:=.type "list",data:=.seq (p++xs).toArray ep})(hp:p.length≤100000)(hf:f (p++xs).toArray=(p++ys).toArray)(r:aG I cx.P σ st.length ws ys)
  (h:∀s',aM cx.P (fun _=>False) I σ st.length s.heap I σ (cD st l (.list p ws)) s'.heap→bw s s'→Q s'):
  Q {s with heap:=s.heap.update (σ l) (Obj.mapSeq f),toks:=t}:=by
 have hl:l<st.length:=(List.getElem?_eq_some_iff.mp (listAt_eq e)).1;have q:Obj.mapSeq f {cls:=.type "list",data:=.seq (p++xs).toArray ep}=({cls:=.type "list",data:=.seq (p++ys).toArray (if(p++ys).toArray.size==(p++xs).toArray.size then ep else ep+1)}:Obj):=by
  show(⟨_,_,.seq (f (p++xs).toArray) _,_⟩:Obj)=_;rw[hf]
 have x:=aM.upd (ao:=.list p ws) H.rel hl g (f:=Obj.mapSeq f) (by rw[q];rfl) (by rw[q];exact .list _ hp r);rw[←eK]at x;exact h {s with heap:=_,toks:=t} x ⟨rfl,rfl,rfl⟩
theorem xK{p xs:LV}(hp:p.length≤100000)(hx:xs.length<n)(hn:n≤1000):(p++xs).toArray.size≤sizeLine:=by
 rw[List.size_toArray,List.length_append,sizeLine_eq];lia
noncomputable def cy{α β:Type}(o:Option α)(f:α→aA β):aA β:=match o with
 |some x=>f x
 |none=>.bad
theorem aN{α β:Type}{S:Spec}{pre:Nat→Addr→List V→St→Prop}{o:Option α}{f:α→aA β}{R:β→Prop}{G:Prop}(e:Good S pre (cy o f) R)(h:∀x,o=some x→Good S pre (f x) R→G):G:=by
 induction o using qe with
 |none=>exact e.elim
 |some x=>exact h x rfl e
noncomputable def dQ{β:Type}(b:Bool)(x:aA β):aA β:=match b with
 |true=>x
 |false=>.bad
theorem bA{β:Type}{S:Spec}{pre:Nat→Addr→List V→St→Prop}{b:Bool}{x:aA β}{R:β→Prop}(e:Good S pre (dQ b x) R):b=true∧Good S pre x R:=by
 induction b using qd with
 |false=>exact e.elim
 |true=>exact⟨rfl,e⟩
noncomputable def xM(st:St)(l:Nat)(v:V):aA St:=cy (listAt st l) fun pv=>.need (pv.2.length<500) (.ok (cD st l (.list pv.1 (pv.2++[v]))))
theorem lP{α:Type}{l:List α}{n:Nat}(h:Nat.blt (len l) n=true):l.length<n:=by
 rw[←i7];exact qo h
theorem yG{l:Nat}{v:V}{z:Value}{R:St→Prop}{Q:dS}(H:au cx k A I σ st s)(hz:aq I cx.P σ st.length v z)(e:Good cx.S cx.pre (xM st l v) R)
  (h:∀st' s',R st'→aM cx.P (fun _=>False) I σ st.length s.heap I σ st' s'.heap→bw s s'→Q .none s'):wpAny cx.M A (call (.builtin "list.append") [.ref (σ l),z]) Q E s:=by
 refine aN e fun pv q e=> ?_;obtain⟨xs,ep,g,r,hp⟩:=H.rel.listAt (p:=pv.1) (vs:=pv.2) q;have sz:(pv.1++xs).toArray.size≤sizeLine:=xK hp (by rw[r.length];exact e.1) (by exact dU);refine call_meets PySem.F.slot_list_append ⟨_,g,rfl⟩ PySem.F.entry_list_append (PySem.F.args_list_append_2 _ _) (list_append (σ l) _ _ z sz) ⟨g, ?_⟩;exact kh (Q:=Q .none) (ys:=xs++[z]) H q g hp (by simp) (r.append (.cons hz .nil)) fun s'=>h _ s' e.2
noncomputable def eB{α:Type}:List α→Bool:=fun l=>match l with
 |[]=>true
 |_::_=>false
theorem cH{α:Type}{l:List α}(h:eB l=true):l=[]:=by
 induction l using qh with
 |nil=>rfl
 |cons=>exact ft h
noncomputable def xN(st:St)(v:V):Option (List V):=match v with
 |.tup vs=>some vs
 |.lst vs=>some vs
 |.loc l=>cC (listAt st l) fun pv=>fH (eB pv.1) (some pv.2)
 |_=>none
theorem zp{v:V}{y:Value}{vs:List V}{h:Heap}(r:cF cx.P I σ st h)(hv:aq I cx.P σ st.length v y)(e:xN st v=some vs):
  ∃a xs ep T,y=.ref a∧(T="list"∨T="tuple")∧h.get? a=some {cls:=.type T,data:=.seq xs.toArray ep}∧aG I cx.P σ st.length vs xs:=by
 have q:=hv.inv;clear hv;induction v using V.casesOn with
 |tup ws=>induction q using iW.casesOn with|mk g q=>exact⟨_,_,_,"tuple",rfl,.inr rfl,r.sub _ _ g,qc e▸q⟩
 |lst ws=>induction q using mY.casesOn with|mk g q=>exact⟨_,_,_,"list",rfl,.inl rfl,r.sub _ _ g,qc e▸q.up⟩
 |loc l=>
  refine aK e fun pv ql e=> ?_;induction q using iH.casesOn
  obtain⟨xs,ep,g,rr,_⟩:=r.listAt (p:=pv.1) (vs:=pv.2) ql;rw[cH (cP e)]at g;exact⟨σ l,xs,ep,"list",rfl,.inl rfl,g,qc (cW e)▸rr⟩
 |_=>exact nn e
noncomputable def G6(st:St)(l:Nat)(v:V):aA St:=cy (listAt st l) fun pv=>cy (xN st v) fun ws=>.need (pv.2.length<250∧ws.length<250) (.ok (cD st l (.list pv.1 (pv.2++ws))))
theorem Tj{m:Nat}(h:m≤200000):Builtin.List.listTooLong m=false:=by
 unfold Builtin.List.listTooLong;exact decide_eq_false (by rw[sizeLine_eq];lia)
theorem GC{l:Nat}{v:V}{z:Value}{R:St→Prop}{Q:dS}(H:au cx k A I σ st s)(hz:aq I cx.P σ st.length v z)(e:Good cx.S cx.pre (G6 st l v) R)
  (h:∀st' s',R st'→aM cx.P (fun _=>False) I σ st.length s.heap I σ st' s'.heap→bw s s'→Q .none s'):wpAny cx.M A (call (.builtin "list.extend") [.ref (σ l),z]) Q E s:=by
 refine aN e fun pv q e=>aN e fun ws hw e=> ?_;obtain⟨xs,ep,g,r,hp⟩:=H.rel.listAt (p:=pv.1) (vs:=pv.2) q;obtain⟨b,ys,ep2,T,rfl,hT,g2,r2⟩:=zp H.rel hz hw;have l1:pv.2.length<250:=e.1.1;have l2:ws.length<250:=e.1.2;have e1:=r.length;have e2:=r2.length;have sz:(pv.1++xs).toArray.size≤sizeLine:=xK hp (n:=250) (by lia) (by exact dU);have s2:(pv.1++xs).toArray.size+ys.toArray.size≤sizeLine+1:=by
  simp only[List.size_toArray,List.length_append,sizeLine_eq];lia
 have tl:¬(!(pv.1++xs).toArray.isEmpty&&Builtin.List.listTooLong ((pv.1++xs).toArray.size+ys.toArray.size))=true:=by
  rw[Tj (by simp only[List.size_toArray,List.length_append];lia),Bool.and_false];exact qE
 rcases hT with rfl|rfl
 ·exact call_meets PySem.F.slot_list_extend ⟨_,g,rfl⟩ PySem.F.entry_list_extend (PySem.F.args_list_extend_2 _ _) (AutoSeq1.list_extend_list_list_0 (σ l) _ _ b _ _ tl sz s2) ⟨g,g2,kh (Q:=Q .none) (ys:=xs++ys) H q g hp (by simp) (r.append r2) fun s'=>h _ s' e.2⟩
 ·exact call_meets PySem.F.slot_list_extend ⟨_,g,rfl⟩ PySem.F.entry_list_extend (PySem.F.args_list_extend_2 _ _) (AutoSeq1.list_extend_list_tuple_0 (σ l) _ _ b _ _ tl sz s2) ⟨g,g2,kh (Q:=Q .none) (ys:=xs++ys) H q g hp (by simp) (r.append r2) fun s'=>h _ s' e.2⟩
noncomputable def aaT{α:Type}(x:α)(o:Option (List α×α)):List α×α:=match o with
 |some p=>(x::p.1,p.2)
 |none=>([],x)
noncomputable def z4{α:Type}:List α→Option (List α×α)
 |[]=>none
 |x::l=>some (aaT x (z4 l))
theorem Cv{α:Type}(l:List α):∀{p:List α×α},z4 l=some p→l=p.1++[p.2]:=by
 induction l with
 |nil=>intro p e;exact nn e
 |cons x l ih=>
  intro p e;rw[←qc e];induction l using qh with
  |nil=>rfl
  |cons y l=>exact congrArg (x::·) (ih rfl)
theorem aG.one{P:Params}{n:Nat}{v:V}{xs:LV}(r:aG I P σ n [v] xs):∃y,xs=[y]∧aq I P σ n v y:=by
 replace r:=r.inv;induction r using dP.casesOn with
 |mk h r=>rw[show _=[]from r.inv];exact⟨_,rfl,h⟩
theorem aG.snoc{P:Params}{n:Nat}{vs:List V}{v:V}:∀{xs:LV},aG I P σ n (vs++[v]) xs→∃ys y,xs=ys++[y]∧aG I P σ n vs ys∧aq I P σ n v y:=by
 induction vs with
 |nil=>intro xs r;obtain⟨y,rfl,h⟩:=aG.one r;exact⟨[],_,rfl,.nil,h⟩
 |cons w vs ih=>
  intro xs r;replace r:=r.inv;induction r using dP.casesOn with
  |mk h r=>
   obtain⟨ys,y,rfl,r1,r2⟩:=ih r;exact⟨_::ys,y,rfl,.cons h r1,r2⟩
noncomputable def VL(st:St)(l:Nat):Option (V×St):=cC (listAt st l) fun pv=>cC (z4 pv.2) fun wv=>fH (Nat.blt (len pv.2) 500) (some (wv.2,cD st l (.list pv.1 wv.1)))
theorem O0(p ys:LV)(y:Value):(p++(ys++[y])).toArray[(p++(ys++[y])).toArray.size-1]? =some y:=by rw[←List.append_assoc];simp
theorem O3(p ys:LV)(y:Value):(p++(ys++[y])).toArray.eraseIdxIfInBounds ((p++(ys++[y])).toArray.size-1)=(p++ys).toArray:=by
 apply Array.ext'
 rw[←List.append_assoc];simp[List.eraseIdx_append_of_length_le]
theorem O4{l:Nat}{v:V}{st':St}{Q:dS}(H:au cx k A I σ st s)(e:VL st l=some (v,st'))
  (h:∀y s',aM cx.P (fun _=>False) I σ st.length s.heap I σ st' s'.heap→bw s s'→aq I cx.P σ st.length v y→Q y s'):wpAny cx.M A (call (.builtin "list.pop") [.ref (σ l)]) Q E s:=by
 refine aK e fun pv q e=>aK e fun wv hq e=> ?_;have l1:=lP (cP e);obtain⟨rfl,rfl⟩:=oB (cW e);obtain⟨xs,ep,g,r,hp⟩:=H.rel.listAt (p:=pv.1) (vs:=pv.2) q;have e1:=r.length;rw[Cv _ hq]at r;obtain⟨ys,y,rfl,r1,r2⟩:=r.snoc;have sz:(pv.1++(ys++[y])).toArray.size≤sizeLine:=xK hp (by rw[e1];exact l1) (by lia);refine call_meets PySem.F.slot_list_pop ⟨_,g,rfl⟩ PySem.F.entry_list_pop (PySem.F.args_list_pop_1 _) (MeetsSeq.list_pop_last (σ l) _ _ y (O0 _ _ _) sz) ⟨g, ?_⟩;exact kh (Q:=Q y) (t:=s.toks) (ys:=ys) H q g hp (O3 _ _ _) r1 (fun s' a b=>h y s' a b r2)
noncomputable def O5{α:Type}:List α→Option (α×List α):=fun l=>match l with
 |[]=>none
 |x::l=>some (x,l)
theorem By{α:Type}{l:List α}{p:α×List α}(e:O5 l=some p):l=p.1::p.2:=by
 induction l using qh with
 |nil=>exact nn e
 |cons x l=>rw[←qc e]
noncomputable def Rv(st:St)(l:Nat):aA (V×St):=cy (listAt st l) fun pv=>cy (fH (eB pv.1) (O5 pv.2)) fun vw=>.need (vw.2.length<400) (.ok (vw.1,cD st l (.list [] vw.2)))
theorem LM{l:Nat}{t:Tok}{R:V×St→Prop}{Q:dS}(H:au cx k A I σ st s)(e:Good cx.S cx.pre (Rv st l) R)
  (h:∀v st' y s',R (v,st')→aM cx.P (fun _=>False) I σ st.length s.heap I σ st' s'.heap→bw s s'→aq I cx.P σ st.length v y→Q y s'):wpAny cx.M A (call (.builtin "list.pop") [.ref (σ l),.int 0 t]) Q E s:=by
 refine aN e fun pv q e=>aN e fun vw hd e=> ?_;obtain⟨xs,ep,g,r,hp⟩:=H.rel.listAt (p:=pv.1) (vs:=pv.2) q;have e1:=r.length;rw[By (cW hd)]at r e1;have q':listAt st l=some ([],pv.2):=by rw[q,←cH (cP hd)]
 rw[cH (cP hd)]at g;replace r:=r.inv;induction r using dP.casesOn with
 |mk hv r=>
  rename_i y ys
  have l1:vw.2.length<400:=e.1;have sz:([]++(y::ys)).toArray.size≤sizeLine:=xK (n:=500) (p:=[]) (by exact nz) (by rw[e1];simp;lia) (by lia);refine call_meets PySem.F.slot_list_pop ⟨_,g,rfl⟩ PySem.F.entry_list_pop (PySem.F.args_list_pop_2 _ _) (MeetsSeq.list_pop_at (σ l) _ _ 0 t 0 y (by decide+kernel) (by simp[seqIndex?]) (by rfl) sz) ⟨g, ?_⟩;refine kh (Q:=Q y) (t:=s.toks) (ys:=ys) (p:=[]) H q' g (by exact nz) ?_ r (fun s' a b=>h _ _ y s' e.2 a b hv)
  apply Array.ext'
  simp
end
theorem g9(mR:Expr)(o i:Value):∃nK,subscripted mR false o i=operate nK (getItem o i):=by
 induction mR using Expr.casesOn with
 |Slice a b c p=>induction c using qe<;>exact⟨_,rfl⟩
 |_=>exact⟨_,rfl⟩
section
variable{cx:Cx}{st:St}
theorem p6(w:World)(hw:w.params=P)(prog:Program):∀{es:List DictEntry},bF I P σ n fs es→KeysOf (strKind prog w) es.toArray:=by
 induction fs with
 |nil=>intro es h;replace h:=h.inv;subst h;exact fun e he=>by simp at he
 |cons a fs ih=>
  intro es h;replace h:=h.inv;induction h using gh.casesOn with
  |mk h r=>
   intro e he;rcases List.mem_cons.mp (List.mem_toArray.mp he)with rfl|he
   ·exact⟨a.1,strKind_is prog w a.1 _,by rw[←hw];rfl⟩
   ·exact ih r e (List.mem_toArray.mpr he)
theorem IL(x:Str):(fun e:DictEntry=>Value.isStrOf x e.key)=fun e=>e.key.isStr x:=funext fun e=>(W.isStr_of x e.key).symm
theorem tU(es:List DictEntry)(x:Str)(hr:es.any (·.refKey)=false):getL x es=some (findBy Value.isStrOf es.toArray x):=by
 unfold getL findBy;rw[List.find?_toArray,IL,hr];induction es.find? (fun e=>e.key.isStr x)using qe<;>rfl
theorem wA{ep:Nat}{h:Heap}{n:Nat}(g:h.get? a=some (dictOf es ep))(r:bF I cx.P σ n fs es):h.MapOf (strKind cx.prog cx.w) a (findBy Value.isStrOf es.toArray):=
 ⟨_,es.toArray,ep,g,⟨rfl,rfl,rfl⟩,rfl,p6 cx.w rfl cx.prog r,fun _=>rfl⟩
noncomputable def oH(st:St)(v:V):Option (ai):=match v with
 |.fB fs=>some fs
 |.loc k=>dictAt st k
 |_=>none
theorem xO(r:cF cx.P I σ st h)(hv:aq I cx.P σ st.length v y)(e:oH st v=some fs):
  ∃a es ep,y=.ref a∧h.get? a=some (dictOf es ep)∧bF I cx.P σ st.length fs es∧(iJ cx I→(a==sysModules)=false):=by
 have q:=hv.inv;clear hv;induction v using V.casesOn with
 |fB Z9=>induction q using tQ.casesOn with|mk hs g q=>exact⟨_,_,_,rfl,r.sub _ _ g,qc e▸q.up,fun _=>hs⟩
 |loc k=>
  induction q using iH.casesOn with
  |mk hl=>
   obtain⟨es,ep,g,q⟩:=r.dictAt e;refine⟨_,es,ep,rfl,g,q,fun b=>beq_eq_false_iff_ne.mpr fun z=> ?_⟩;obtain⟨o,ho⟩:=b.tS;have:=r.out _ hl;rw[z,ho]at this;exact ns this
 |_=>exact nn e
noncomputable def Rw(st:St)(o:V):Option V:=match o with
 |.loc l=>cC (listAt st l) fun pv=>cC (z4 pv.2) fun wv=>fH (Nat.blt (len pv.2) 500) (some wv.2)
 |_=>none
noncomputable def Rx(st:St)(o:V):Int→Option V
 |.ofNat j=>cC (xN st o) fun vs=>fH (Nat.blt (len vs) 500) (di vs j)
 |.negSucc m=>match m with
  |0=>Rw st o
  |_+1=>none
noncomputable def zq(st:St)(o i:V):Option V:=match i with
 |.int n=>Rx st o n
 |.str x=>cC (oH st o) fun fs=>lk x fs
 |_=>none
noncomputable def D5(st:St)(o i:V):aA V:=match o with
 |.lst vs=>match i with
  |.int n=>.pick vs n .ok
  |.num n=>.pick vs n .ok
  |_=>.bad
 |_=>Rp (zq st o i)
theorem VM{α:Type}{l:List α}{n:Nat}{x:α}(e:di l n=some x):n<l.length:=by
 rw[gI]at e;exact(List.getElem?_eq_some_iff.mp e).1
section
theorem Tn{j:Nat}{t:Tok}(H:au cx k A I σ st s)(ho:aq I cx.P σ st.length o y)(e:Rx st o (.ofNat j)=some v)(h:∀x t,aq I cx.P σ st.length v x→Q x {s with toks:=t}):wpAny cx.M A (subscriptTail value mR y (.int (.ofNat j) t)) Q E s:=by
 obtain⟨nK,pR⟩:=g9 mR y (.int (.ofNat j) t);refine aK e fun vs q e=> ?_;obtain⟨a,xs,ep,T,rfl,hT,g,r⟩:=zp H.rel ho q;have hj:=VM (cW e);have l1:=lP (cP e);have e1:=r.length;obtain⟨x,hx,rx⟩:=r.di (cW e);rcases hT with rfl|rfl
 ·exact tail_any (T:="list") ⟨_,g,rfl⟩ PySem.F.slot_list_getitem.lookup (wpAny_getItem_list (items:=xs.toArray) ⟨_,g,rfl,ep,rfl⟩ (Int.natCast_nonneg j) (by show(j:Int)<2^63;lia) (by simpa using hx) (h x s.toks rx)) pR
 ·have hs:seqIndex? (Int.ofNat j) xs.toArray.size=some j:=by
   unfold seqIndex?;rw[List.size_toArray];have:(Int.ofNat j)=(j:Int):=rfl;rw[this];simp only[Int.natCast_nonneg]
   split<;>first|(simp;lia)|(exfalso;lia)|rfl
  exact tail_any (T:="tuple") ⟨_,g,rfl⟩ slot_tuple_getitem.lookup (getItem_tuple (items:=xs.toArray) ⟨_,g,rfl,ep,rfl⟩ (by show-(2^63)≤(j:Int);lia) (by show(j:Int)<2^63;lia) hs (by simpa using hx) (h x s.toks rx)) pR
theorem O6{t:Tok}(H:au cx k A I σ st s)(ho:aq I cx.P σ st.length o y)(e:Rw st o=some v)(h:∀x t,aq I cx.P σ st.length v x→Q x {s with toks:=t}):wpAny cx.M A (subscriptTail value mR y (.int (.negSucc 0) t)) Q E s:=by
 obtain⟨nK,pR⟩:=g9 mR y (.int (.negSucc 0) t);have iv:=ho.inv;clear ho;induction o using V.casesOn with
 |loc l=>
  refine aK e fun pv q e=>aK e fun wv hq e=> ?_;rw[←qc (cW e)]at h;have l1:=lP (cP e);induction iv using iH.casesOn
  obtain⟨xs,ep,g,r,hp⟩:=H.rel.listAt (p:=pv.1) (vs:=pv.2) q;have e1:=r.length;rw[Cv _ hq]at r;obtain⟨ys,x,rfl,r1,r2⟩:=r.snoc;refine tail_any (T:="list") ⟨_,g,rfl⟩ PySem.F.slot_list_getitem.lookup (wpAny_getItem_list_neg (items:=(pv.1++(ys++[x])).toArray) ⟨_,g,rfl,ep,rfl⟩ (by decide) ?_ (by decide) ?_ (h x s.toks r2)) pR
  ·simp only[List.size_toArray,List.length_append,List.length_cons,List.length_nil];lia
  ·have:((Int.negSucc 0)+((pv.1++(ys++[x])).toArray.size:Int)).toNat=(pv.1++ys).length:=by
    simp only[List.size_toArray,List.length_append,List.length_cons,List.length_nil];lia
   rw[this,←List.append_assoc];simp
 |_=>exact nn e
theorem LN(H:au cx k A I σ st s)(ho:aq I cx.P σ st.length o y)(hi:aq I cx.P σ st.length i z)(e:zq st o i=some v)
  (h:∀x t,aq I cx.P σ st.length v x→Q x {s with toks:=t}):wpAny cx.M A (subscriptTail value mR y z) Q E s:=by
 have iv:=hi.inv;clear hi;induction i using V.casesOn with
 |int n=>
  induction iv using fY.casesOn
  induction n using qJ with
  |ofNat j=>exact Tn H ho e h
  |negSucc m=>induction m using qk with
   |zero=>exact O6 H ho e h
   |succ=>exact nn e
 |str x=>
  induction iv using oE.casesOn with
  |mk t=>
   obtain⟨nK,pR⟩:=g9 mR y (.str x t);refine aK e fun fs q e=> ?_;obtain⟨a,es,ep,rfl,g,r,_⟩:=xO H.rel ho q;have hm:=wA (cx:=cx) g r;obtain⟨u,hu,ru⟩:=(r.find x).1 v e;have fu:=tU es x r.noRef;rw[hu]at fu;exact tail_any (T:="dict") hm.typeIs slot_dict_getitem.lookup (wpAny_getItem_of (strKind_is cx.prog cx.w x t) hm (qc fu).symm (h u _ ru)) pR
 |_=>exact nn e
theorem D6(H:au cx k A I σ st s)(ho:aq I cx.P σ st.length (.lst vs) y)(e:Good cx.S cx.pre (.pick vs n .ok) R)
  (h:∀v x t,R v→aq I cx.P σ st.length v x→Q x {s with toks:=t}):wpAny cx.M A (subscriptTail value mR y (.int n t)) Q E s:=by
 obtain⟨j,v,rfl,hv,hl,hR⟩:=e;obtain⟨nK,pR⟩:=g9 mR y (.int (Int.ofNat j) t);replace ho:=ho.inv;induction ho using mY.casesOn with
 |mk gg rr=>
  rename_i a n xs
  have e1:=rr.length;have hj:j<vs.length:=(List.getElem?_eq_some_iff.mp hv).1;obtain⟨x,hx,rx⟩:=(rr.up (σ:=σ) (n:=st.length)).di ((gI vs j).trans hv);exact tail_any (T:="list") ⟨_,H.rel.sub _ _ gg,rfl⟩ PySem.F.slot_list_getitem.lookup (wpAny_getItem_list (items:=xs.toArray) ⟨_,H.rel.sub _ _ gg,rfl,n,rfl⟩ (Int.natCast_nonneg j) (by show(j:Int)<2^63;lia) (by simpa using hx) (h v x s.toks hR rx)) pR
theorem O7(H:au cx k A I σ st s)(ho:aq I cx.P σ st.length o y)(hi:aq I cx.P σ st.length i z)(e:Good cx.S cx.pre (D5 st o i) R)
  (h:∀v x t,R v→aq I cx.P σ st.length v x→Q x {s with toks:=t}):wpAny cx.M A (subscriptTail value mR y z) Q E s:=by
 have D7:Good cx.S cx.pre (Rp (zq st o i)) R→wpAny cx.M A (subscriptTail value mR y z) Q E s:=fun e=>by
  obtain⟨v,q,hR⟩:=DW e;exact LN H ho hi q fun x t=>h v x t hR
 induction o using V.casesOn with
 |lst vs=>
  have iv:=hi.inv;clear hi D7;induction i using V.casesOn with
  |int n=>induction iv using fY.casesOn;exact D6 H ho e h
  |num n=>induction iv using fY.casesOn;exact D6 H ho e h
  |_=>exact e.elim
 |_=>exact D7 e
end
theorem D8:(⟨hs,.str q t,z⟩::es:List DictEntry).findIdx? (fun e=>Value.isStrOf x e.key)=if seq x q then some 0 else(es.findIdx? fun e=>Value.isStrOf x e.key).map (· +1):=by
 rw[List.findIdx?_cons,show Value.isStrOf x (Value.str q t)=seq x q by rw[←W.isStr_of];exact sM x q t]
theorem bF.modify(hy:aq I P σ n v y):∀{es:List DictEntry} {i:Nat},bF I P σ n fs es→es.findIdx? (fun e=>Value.isStrOf x e.key)=some i→
  bF I P σ n (Mine.Internal.put x v fs) (es.modify i fun e=>{e with val:=y}):=by
 induction fs with
 |nil=>intro es i h e;replace h:=h.inv;subst h;exact nn e
 |cons a fs ih=>
  intro es i h e;replace h:=h.inv;induction h using gh.casesOn with
  |mk h r=>
   rw[D8]at e;induction q:seq x a.1 using qd with
   |true=>rw[xJ q];rw[q]at e;cases qc e;rw[List.modify_zero_cons];exact .cons hy r
   |false=>
    rw[rK q];rw[q]at e;obtain⟨j,hj,rfl⟩:=Option.map_eq_some_iff.mp e;rw[List.modify_succ_cons];exact .cons h (ih r hj)
theorem bF.snoc(hy:aq I P σ n v y):∀{es:List DictEntry},bF I P σ n fs es→es.findIdx? (fun e=>Value.isStrOf x e.key)=none→
  bF I P σ n (Mine.Internal.put x v fs) (es++[⟨PyData.keyHash P x,.str x t,y⟩]):=by
 induction fs with
 |nil=>intro es h e;replace h:=h.inv;subst h;exact .cons hy .nil
 |cons a fs ih=>
  intro es h e;replace h:=h.inv;induction h using gh.casesOn with
  |mk h r=>
   rw[D8]at e;induction q:seq x a.1 using qd with
   |true=>rw[q]at e;exact ns e
   |false=>rw[rK q];rw[q]at e;exact .cons h (ih r (Option.map_eq_none_iff.mp e))
theorem D9(H:cF cx.P I σ st s.heap)(hv:aq I cx.P σ st.length v y)(e:dictAt st l=some fs)(hl:fs.length<500)
  (h:∀s',aM cx.P (fun _=>False) I σ st.length s.heap I σ (cD st l (.dict (put x v fs))) s'.heap→bw s s'→Q () s'):wpAny cx.M A (dictSet (σ l) (.str x t) y) Q E s:=by
 obtain⟨es,ep,g,rf⟩:=H.dictAt e;have hk:l<st.length:=(List.getElem?_eq_some_iff.mp (pA e)).1;have ln:=rf.length;have VN:=strKind_is cx.prog cx.w x t;unfold dictSet
 try with_reducible refine wpAny_holding ?_
 refine wpAny_bind ((strKind cx.prog cx.w).pyHash VN ?_);unfold dictSetHashed
 try with_reducible refine wpAny_holding ?_
 refine wpAny_bind (wpAny_dictFind_of (knd:=strKind cx.prog cx.w) (s:={s with toks:=s.toks+1}) VN g rfl (p6 cx.w rfl cx.prog rf) ?_);have aaU:(es.toArray.findIdx? fun e=>(strKind cx.prog cx.w).is x e.key)=es.findIdx? fun e=>Value.isStrOf x e.key:=by rw[List.findIdx?_toArray];rfl
 rw[aaU];induction hi:es.findIdx? fun e=>Value.isStrOf x e.key using qe with
 |some i=>
  refine wpAny_bind (wpAny_rule (wpAny_bind (wpAny_updateDict (s:={s with toks:=s.toks+1}) g rfl (wpAny_point ?_))));have eq:Obj.mapDict (·.modify i fun e=>{e with val:=y}) (dictOf es ep)=dictOf (es.modify i fun e=>{e with val:=y}) ep:=by
   show(⟨_,_,.dict _ _,_⟩:Obj)=_;simp[dictOf]
  have ex:=aM.upd (ao:=.dict (put x v fs)) H hk g (f:=Obj.mapDict (·.modify i fun e=>{e with val:=y})) (by rw[eq];rfl) (by rw[eq];exact .dict ep (rf.modify hv hi));rw[←eK]at ex;exact h {s with heap:=_,toks:=_} ex ⟨rfl,rfl,rfl⟩
 |none=>
  refine wpAny_bind (wpAny_rule (wpAny_updateDictKeys (hz:=by show es.toArray.size≤sizeLine;rw[List.size_toArray,sizeLine_eq];lia) (s:={s with toks:=s.toks+1}) g rfl ?_));have eq:Obj.mapDictKeys (·.push ⟨PyData.keyHash cx.P x,.str x t,y⟩) (dictOf es ep)=dictOf (es++[⟨PyData.keyHash cx.P x,.str x t,y⟩]) (ep+1):=by
   show(⟨_,_,.dict _ _,_⟩:Obj)=_;simp[dictOf]
  have ex:=aM.upd (ao:=.dict (put x v fs)) H hk g (f:=Obj.mapDictKeys (·.push ⟨PyData.keyHash cx.P x,.str x t,y⟩)) (by rw[eq];rfl) (by rw[eq];exact .dict _ (rf.snoc hv hi));rw[←eK]at ex;exact h {s with heap:=_,toks:=_} ex ⟨rfl,rfl,rfl⟩
theorem LO(H:au cx k A I σ st s)(hv:aq I cx.P σ st.length v y)(e:dictAt st l=some fs)(hl:fs.length<500)
  (h:∀s',aM cx.P (fun _=>False) I σ st.length s.heap I σ (cD st l (.dict (put x v fs))) s'.heap→bw s s'→Q () s'):wpAny cx.M A (setItem (.ref (σ l)) (.str x t) y) Q E s:=by
 obtain⟨es,ep,g,rf⟩:=H.rel.dictAt e;have hT:s.TypeIs (.ref (σ l)) "dict":=⟨_,g,rfl⟩;unfold setItem
 try with_reducible refine wpAny_holding ?_
 refine wpAny_bind (wpAny_sequenceKey hT (by decide) ?_);refine wpAny_bind (wpAny_callSpecial?_slot (name:=Str.ofString "__setitem__") hT slot_dict_setitem
  (wpAny_call_entry slot_dict_setitem hT entry_dict_setitem ?_ (args_dict_setitem _ _ _)))
 show wpAny _ _ (Builtin.Dict.notOrdered "__setitem__" ⟨[.ref (σ l),.str x t,y],[]⟩>>=_) _ _ s;refine wpAny_bind (wpAny_notOrdered_dict hT ?_);show wpAny _ _ (dictSet (σ l) (.str x t) y>>=_) _ _ s;exact wpAny_bind (D9 H.rel hv e hl fun s' a b=>wpAny_pure ⟨.none,rfl,wpAny_pure (h s' a b)⟩)
noncomputable def LP(st:St)(l:Nat)(v:V):Int→Option St
 |.ofNat j=>cC (listAt st l) fun pv=>fH (eB pv.1) (fH (Nat.blt j (len pv.2)) (fH (Nat.blt (len pv.2) 500) (some (cD st l (.list [] (cD pv.2 j v))))))
 |.negSucc _=>none
noncomputable def Ea(st:St)(o i v:V):Option St:=match o with
 |.loc l=>match i with
  |.int n=>LP st l v n
  |.str x=>cC (dictAt st l) fun fs=>fH (Nat.blt (len fs) 500) (some (cD st l (.dict (put x v fs))))
  |_=>none
 |_=>none
theorem aG.set(hy:aq I P σ n v y):∀{xs:LV} {j:Nat},aG I P σ n vs xs→aG I P σ n (vs.set j v) (xs.set j y):=by
 induction vs with
 |nil=>intro xs j h;replace h:=h.inv;subst h;exact .nil
 |cons a vs ih=>
  intro xs j h;replace h:=h.inv;induction h using dP.casesOn with
  |mk h r=>induction j using qk with
   |zero=>exact .cons hy r
   |succ j=>exact .cons h (ih r)
theorem To(H:au cx k A I σ st s)(hu:aq I cx.P σ st.length v u)(e:LP st l v n=some st')
  (h:∀s',aM cx.P (fun _=>False) I σ st.length s.heap I σ st' s'.heap→bw s s'→Q () s'):wpAny cx.M A (setItem (.ref (σ l)) (.int n t) u) Q E s:=by
 induction n using qJ with
 |negSucc=>exact nn e
 |ofNat j=>
  refine aK e fun pv q e=> ?_;have e2:=cW e;have e3:=cW e2;rw[←qc (cW e3)]at h;obtain⟨xs,ep,g,r,hp⟩:=H.rel.listAt (p:=pv.1) (vs:=pv.2) q;have q':listAt st l=some ([],pv.2):=by rw[q,←cH (cP e)]
  rw[cH (cP e)]at g;have l1:=lP (cP e3);have e1:=r.length;have LQ:j<pv.2.length:=by rw[←i7];exact qo (cP e2)
  refine ki_setAt (n:=ep) g (Int.natCast_nonneg j) (by show(j:Int)<2^63;lia) (by show(j:Int)<_;simp only[List.nil_append,List.size_toArray];lia) ?_;refine kh (Q:=Q ()) (ys:=xs.set j u) (p:=[]) H q' g (by exact nz) ?_ (eK pv.2 j v▸r.set hu) h;simp
theorem O8(H:au cx k A I σ st s)(ho:aq I cx.P σ st.length o y)(hi:aq I cx.P σ st.length i z)(hu:aq I cx.P σ st.length v u)
  (e:Ea st o i v=some st')(h:∀s',aM cx.P (fun _=>False) I σ st.length s.heap I σ st' s'.heap→bw s s'→Q () s'):wpAny cx.M A (setItem y z u) Q E s:=by
 have iv:=ho.inv;have jv:=hi.inv;clear ho hi;induction o using V.casesOn with
 |loc l=>
  induction iv using iH.casesOn
  induction i using V.casesOn with
  |int n=>induction jv using fY.casesOn;exact To H hu e h
  |str x=>
   induction jv using oE.casesOn
   refine aK e fun fs q e=> ?_;rw[←qc (cW e)]at h;exact LO H hu q (lP (cP e)) h
  |_=>exact nn e
 |_=>exact nn e
end
section
open PySem.SeqAt
noncomputable def rM:Int→Int→Bool:=fun a b=>match a with
 |.ofNat m=>match b with
  |.ofNat n=>Nat.beq m n
  |.negSucc _=>false
 |.negSucc m=>match b with
  |.ofNat _=>false
  |.negSucc n=>Nat.beq m n
theorem pB(a b:Int):(a==b)=rM a b:=by
 induction a using qJ with
 |ofNat m=>induction b using qJ with
  |ofNat n=>
   show((Int.ofNat m)==(Int.ofNat n))=Nat.beq m n;induction h:Nat.beq m n using qd with
   |true=>rw[qt h];exact beq_self_eq_true _
   |false=>exact beq_eq_false_iff_ne.mpr fun e=>Nat.ne_of_beq_eq_false h (Int.ofNat.inj e)
  |negSucc n=>rfl
 |negSucc m=>induction b using qJ with
  |ofNat n=>rfl
  |negSucc n=>
   show((Int.negSucc m)==(Int.negSucc n))=Nat.beq m n;induction h:Nat.beq m n using qd with
   |true=>rw[qt h];exact beq_self_eq_true _
   |false=>exact beq_eq_false_iff_ne.mpr fun e=>Nat.ne_of_beq_eq_false h (Int.negSucc.inj e)
noncomputable def VO:Int→Int→Bool:=fun a b=>match a with
 |.ofNat m=>match b with
  |.ofNat n=>Nat.blt m n
  |.negSucc _=>false
 |.negSucc m=>match b with
  |.ofNat _=>true
  |.negSucc n=>Nat.blt n m
theorem G7(m n:Nat):Nat.blt m n=decide (m<n):=by
 induction h:Nat.blt m n using qd with
 |true=>exact(decide_eq_true (qo h)).symm
 |false=>exact(decide_eq_false fun e=>by rw[show Nat.blt m n=true from Nat.ble_eq_true_of_le e]at h;exact tf h).symm
theorem LR(a b:Int):decide (a<b)=VO a b:=by
 induction a using qJ with
 |ofNat m=>induction b using qJ with
  |ofNat n=>
   show _=Nat.blt m n;rw[G7];exact decide_eq_decide.mpr Int.ofNat_lt
  |negSucc n=>
   show _=false;exact decide_eq_false (by show¬(m:Int)<_;lia)
 |negSucc m=>induction b using qJ with
  |ofNat n=>
   show _=true;exact decide_eq_true (by show _<(n:Int);lia)
  |negSucc n=>
   show _=Nat.blt n m;rw[G7];exact decide_eq_decide.mpr (by lia)
noncomputable def p7:Bool→Int:=fun b=>match b with
 |true=>1
 |false=>0
theorem kZ(b:Bool):(if b then(1:Int)else 0)=p7 b:=by induction b using qd<;>rfl
inductive Pv where
 |none
 |bool (b:Bool)
 |int (i:Int)
 |str (s:Str)
inductive vP:Pv→Value→Prop
 |none:vP .none .none
 |bool (b:Bool):vP (.bool b) (.bool b)
 |int (i:Int) (t:Tok):vP (.int i) (.int i t)
 |str (s:Str) (t:Tok):vP (.str s) (.str s t)
noncomputable def O9(v:V):Option Pv:=match v with
 |.none=>some .none
 |.bool b=>some (.bool b)
 |.int i=>some (.int i)
 |.str s=>some (.str s)
 |_=>none
theorem Ry(hv:aq I P σ n v y)(e:O9 v=some p):vP p y:=by
 have h:=hv.inv;clear hv;induction v using V.casesOn with
 |none=>subst h;obtain rfl:=qc e;exact .none
 |bool b=>subst h;obtain rfl:=qc e;exact .bool _
 |int i=>induction h using fY.casesOn;obtain rfl:=qc e;exact .int _ _
 |str s=>induction h using oE.casesOn;obtain rfl:=qc e;exact .str _ _
 |_=>exact nn e
noncomputable def VP(a b:Bool):Bool:=match a with
 |true=>b
 |false=>match b with
  |true=>false
  |false=>true
noncomputable def eqP(p q:Pv):Bool:=match p with
 |.none=>match q with
  |.none=>true
  |_=>false
 |.bool x=>match q with
  |.bool y=>VP x y
  |.int y=>rM (p7 x) y
  |_=>false
 |.int x=>match q with
  |.bool y=>rM x (p7 y)
  |.int y=>rM x y
  |_=>false
 |.str x=>match q with
  |.str y=>seq x y
  |_=>false
noncomputable def RA(a b:V):Option Bool:=cC (O9 a) fun p=>cC (O9 b) fun q=>some (eqP p q)
theorem Tp(x y:Str):(x==y)=seq x y:=by
 induction h:seq x y using qd with
 |true=>exact beq_iff_eq.mpr (gA.mp h)
 |false=>exact beq_eq_false_iff_ne.mpr (iE.mp h)
theorem VQ(a b:Bool):(a==b)=VP a b:=by induction a using qd<;>induction b using qd<;>rfl
noncomputable def xP:Value→Value→Bool
 |.none,.none=>true
 |.bool a,.bool b=>a==b
 |.bool a,.int b _=>p7 a==b
 |.int a _,.bool b=>a==p7 b
 |.int a _,.int b _=>a==b
 |.str a _,.str b _=>a==b
 |_,_=>false
structure uT (A:Around) (s:Shared) (y z:Value) (r:Bool):Prop where
 rc:RcAt A s y z r
 ne:RcNeAt A s y z (!r)
 at_:EqAt A s y z r
 val:xP y z=r
theorem Tq(ha:vP p y)(hb:vP q z):uT A s y z (eqP p q):=by
 induction ha using vP.casesOn with
 |none=>induction hb using vP.casesOn with
  |none=>exact⟨RcAt.none_none,RcNeAt.none_none,EqAt.same _,rfl⟩
  |bool=>exact⟨RcAt.none_bool _,RcNeAt.none_bool _,EqAt.none_bool _,rfl⟩
  |int=>exact⟨RcAt.none_int _ _,RcNeAt.none_int _ _,EqAt.none_int _ _,rfl⟩
  |str=>exact⟨RcAt.none_str _ _,RcNeAt.none_str _ _,EqAt.none_str _ _,rfl⟩
 |bool x=>induction hb using vP.casesOn with
  |none=>exact⟨RcAt.bool_none _,RcNeAt.bool_none _,EqAt.bool_none _,rfl⟩
  |bool w=>show uT A s _ _ (VP x w);rw[←VQ];exact⟨RcAt.bool_bool _ _,RcNeAt.bool_bool _ _,EqAt.bool_bool _ _,rfl⟩
  |int w t=>show uT A s _ _ (rM (p7 x) w);rw[←pB];exact⟨by rw[←kZ];exact RcAt.bool_int _ _ _,by rw[←kZ];exact RcNeAt.bool_int _ _ _,by rw[←kZ];exact EqAt.bool_int _ _ _,rfl⟩
  |str=>exact⟨RcAt.bool_str _ _ _,RcNeAt.bool_str _ _ _,EqAt.bool_str _ _ _,rfl⟩
 |int x t=>induction hb using vP.casesOn with
  |none=>exact⟨RcAt.int_none _ _,RcNeAt.int_none _ _,EqAt.int_none _ _,rfl⟩
  |bool w=>show uT A s _ _ (rM x (p7 w));rw[←pB];exact⟨by rw[←kZ];exact RcAt.int_bool _ _ _,by rw[←kZ];exact RcNeAt.int_bool _ _ _,by rw[←kZ];exact EqAt.int_bool _ _ _,rfl⟩
  |int w t=>show uT A s _ _ (rM x w);rw[←pB];exact⟨RcAt.int_int _ _ _ _,RcNeAt.int_int _ _ _ _,EqAt.int_int _ _ _ _,rfl⟩
  |str=>exact⟨RcAt.int_str _ _ _ _,RcNeAt.int_str _ _ _ _,EqAt.int_str _ _ _ _,rfl⟩
 |str x t=>induction hb using vP.casesOn with
  |none=>exact⟨RcAt.str_none _ _,RcNeAt.str_none _ _,EqAt.str_none _ _,rfl⟩
  |bool=>exact⟨RcAt.str_bool _ _ _,RcNeAt.str_bool _ _ _,EqAt.str_bool _ _ _,rfl⟩
  |int=>exact⟨RcAt.str_int _ _ _ _,RcNeAt.str_int _ _ _ _,EqAt.str_int _ _ _ _,rfl⟩
  |str w t=>show uT A s _ _ (seq x w);rw[←Tp];exact⟨RcAt.str_str _ _ _ _,RcNeAt.str_str _ _ _ _,EqAt.str_str _ _ _ _,rfl⟩
theorem BA(ha:aq I P σ n a y)(hb:aq I P σ n b z)(e:RA a b=some r):uT A s y z r:=
 aK e fun _ p e=>aK e fun _ q e=>qc e▸Tq (Ry ha p) (Ry hb q)
noncomputable def Pa(a:V):List V→Option Bool
 |[]=>some false
 |b::l=>cC (RA b a) fun r=>cC (Pa a l) fun q=>match r with
  |true=>some true
  |false=>some q
theorem Tu(ha:aq I P σ n a y)(vs:List V):
  ∀{xs:LV} {r:Bool},aG I P σ n vs xs→Pa a vs=some r→(∀z,z∈xs→EqAt A s z y (xP z y))∧xs.any (fun z=>xP z y)=r:=by
 induction vs with
 |nil=>intro xs r rr e;cases rr.inv;obtain rfl:=qc e;exact⟨(fun _ h=>absurd h qN),rfl⟩
 |cons b vs ih=>
  intro xs r rr e;have q:=rr.inv;clear rr;induction q using dP.casesOn
  rename_i x xs h rr
  refine aK e fun r1 q1 e=>aK e fun r2 q2 e=> ?_;obtain⟨hf,hr⟩:=ih rr q2;have ea:=BA (A:=A) (s:=s) h ha q1;refine⟨fun z hz=>(List.mem_cons.mp hz).elim (fun h'=> ?_) (hf z), ?_⟩
  ·rw[h',ea.val];exact ea.at_
  ·rw[List.any_cons,ea.val,hr];induction r1 using qd<;>exact qc e
noncomputable def z5(v:V):Option Bool:=match v with
 |.none=>some false
 |.bool b=>some b
 |_=>none
noncomputable def BB(v:V):Option Bool:=match v with
 |.none=>some false
 |.aL y=>match y with
  |.ref _=>some true
  |_=>none
 |_=>some true
section
variable{cx:Cx}{st:St}
theorem pV(h:Q false s):wpAny M A (truthy .none) Q E s:=fun _ _ _=>h
theorem zu(hv:aq I cx.P σ st.length v y)(e:z5 v=some b)(h:Q b s):wpAny cx.M A (truthy y) Q E s:=by
 replace hv:=hv.inv;induction v using V.casesOn with
 |none=>subst hv;exact pV (qc e▸h)
 |bool=>subst hv;exact wpAny_truthy_bool (qc e▸h)
 |_=>exact nn e
theorem z6(hv:aq I cx.P σ n v y)(e:BB v=some b):(y==Value.none)= !b:=by
 have h:=hv.inv;clear hv;induction v using V.casesOn with
 |none=>subst h;obtain rfl:=qc e;rfl
 |aL w=>
  subst(h:y=w);induction y using PySem.Value.casesOn with
  |ref a=>obtain rfl:=qc e;rfl
  |_=>exact nn e
 |_=>cases h;obtain rfl:=qc e;rfl
end
noncomputable def wB(st:St)(v:V):Option (List V):=match v with
 |.lst vs=>some vs
 |.loc l=>cC (listAt st l) fun pv=>fH (eB pv.1) (some pv.2)
 |_=>none
noncomputable def eqL(st:St)(a b:V):Option Bool:=cC (wB st a) fun vs=>cC (wB st b) fun ws=>fH (eB ws) (some (eB vs))
noncomputable def IP(v:V):Option (Bool×Int):=match v with
 |.int x=>some (false,x)
 |.num x=>some (true,x)
 |_=>none
theorem int_at(hv:aq I P σ n v y)(e:IP v=some p):fY p.2 y:=by
 have h:=hv.inv;clear hv;induction v using V.casesOn with
 |int=>obtain rfl:=qc e;exact h
 |num=>obtain rfl:=qc e;exact h
 |_=>exact nn e
noncomputable def Tv(a b:Bool):Bool:=match a with
 |true=>true
 |false=>b
noncomputable def IQ(a b:V):Option (Bool×Int×Int):=cC (IP a) fun p=>cC (IP b) fun q=>some (Tv p.1 q.1,p.2,q.2)
theorem xQ(ha:aq I P σ n a y)(hb:aq I P σ n b z)(e:IQ a b=some p):fY p.2.1 y∧fY p.2.2 z:=
 aK e fun _ q1 e=>aK e fun _ q2 e=>qc e▸⟨int_at ha q1,int_at hb q2⟩
noncomputable def VR(a b:V):Option Bool:=cC (IQ a b) fun p=>fH (i8 p.1) (some (VO p.2.1 p.2.2))
theorem RB{a b:V}{y z:Value}{r:Bool}{G:Prop}(ha:aq I P σ n a y)(hb:aq I P σ n b z)(e:VR a b=some r)(h:∀i j,fY i y→fY j z→VO i j=r→G):G:=by
 exact aK e fun p q e=>h _ _ (xQ ha hb q).1 (xQ ha hb q).2 (qc (cW e))
noncomputable def z7(o:Option Bool)(f:Bool→Bool):Option V:=cC o fun b=>some (.bool (f b))
theorem lq(e:z7 o f=some v):∃b,o=some b∧v=.bool (f b):=aK e fun b q e=>⟨b,q,(qc e).symm⟩
noncomputable def BC:V→Bool:=fun v=>match v with
 |.none=>true
 |_=>false
noncomputable def Tw{α:Type}(o:Option α):Bool:=match o with
 |some _=>true
 |none=>false
noncomputable def Eb(st:St)(a b:V):Option Bool:=match a with
 |.str x=>cC (oH st b) fun fs=>some (Tw (lk x fs))
 |_=>none
noncomputable def VS(st:St)(a b:V):Option Bool:=match b with
 |.tup vs=>Pa a vs
 |_=>Eb st a b
noncomputable def RC(st:St)(a b:V):Option Bool:=match RA a b with
 |some r=>some r
 |none=>eqL st a b
noncomputable def Pb(st:St)(op:CmpOp)(a b:V):Option V:=match op with
 |.Is=>fH (BC b) (z7 (BB a) i8)
 |.IsNot=>fH (BC b) (z7 (BB a) fun b=>b)
 |.Eq=>z7 (RC st a b) fun b=>b
 |.NotEq=>z7 (RC st a b) i8
 |.Lt=>z7 (VR a b) fun b=>b
 |.Gt=>z7 (VR b a) fun b=>b
 |.In=>z7 (VS st a b) fun b=>b
 |.NotIn=>z7 (VS st a b) i8
 |_=>none
section
variable{cx:Cx}{I:IM}{σ:Nat→Addr}{st:St}{s:Shared}{E:dS}
theorem Cw(hb:aq I cx.P σ n b z)(e:BC b=true):z=.none:=by
 have h:=hb.inv;clear hb;induction b using V.casesOn with
 |none=>exact h
 |_=>exact ft e
theorem listItems_at(r:cF cx.P I σ st h)(hv:aq I cx.P σ st.length v y)(e:wB st v=some vs):
  ∃a xs,y=.ref a∧h.IsList a xs.toArray∧aG I cx.P σ st.length vs xs:=by
 replace hv:=hv.inv;induction v using V.casesOn with
 |lst ws=>induction hv using mY.casesOn with|mk g q=>exact⟨_,_,rfl,⟨_,r.sub _ _ g,rfl,_,rfl⟩,(qc e:ws=vs)▸q.up⟩
 |loc l=>
  induction hv using iH.casesOn
  refine aK e fun pv q e=> ?_;obtain⟨xs,ep,g,rr,_⟩:=r.listAt (p:=pv.1) (vs:=pv.2) q;rw[cH (cP e)]at g;exact⟨_,xs,rfl,⟨_,g,rfl,ep,rfl⟩,qc (cW e)▸rr⟩
 |_=>exact nn e
theorem VT(H:au cx k A I σ st s)(ha:aq I cx.P σ st.length a y)(hb:aq I cx.P σ st.length b z)(e:eqL st a b=some r):RcAt A s y z r∧RcNeAt A s y z (!r):=by
 have hu:A.units<cLine:=by have:=H.fit.units;lia
 refine aK e fun vs q1 e=>aK e fun ws q2 e=> ?_;obtain⟨c,xs,rfl,il,rl⟩:=listItems_at H.rel ha q1;obtain⟨d,ys,rfl,RD,RE⟩:=listItems_at H.rel hb q2;rw[cH (cP e)]at RE;replace RE:=RE.inv;subst RE;rw[←qc (cW e)];have hrl:=rl.inv;induction vs using qh with
 |nil=>rw[show xs=[]from hrl]at il;exact⟨RcAt.lists (e:=fun _=>true) il RD rfl hu (fun j h1=>absurd h1 (qr _)),RcNeAt.lists (e:=fun _=>true) il RD rfl hu (fun j h1=>absurd h1 (qr _))⟩
 |cons=>induction hrl using dP.casesOn with|mk h rr=>exact⟨RcAt.lists_lengths il RD rfl hu,RcNeAt.lists_lengths il RD rfl hu⟩
theorem LU(H:au cx k A I σ st s)(ha:aq I cx.P σ st.length a y)(hb:aq I cx.P σ st.length b z)(e:RC st a b=some r):RcAt A s y z r∧RcNeAt A s y z (!r):=by
 rw[RC]at e;induction q:RA a b using qe with
 |some r'=>rw[q]at e;exact qc e▸⟨(BA ha hb q).rc,(BA ha hb q).ne⟩
 |none=>rw[q]at e;exact VT H ha hb e
theorem IS(H:au cx k A I σ st s)(ha:aq I cx.P σ st.length a y)(hb:aq I cx.P σ st.length b z)(e:Eb st a b=some r):
  (∀Q:dS,(∀t,Q (.bool r) {s with toks:=t})→wpAny cx.M A (compareOp .In y z) Q E s)∧(∀Q:dS,(∀t,Q (.bool (!r)) {s with toks:=t})→wpAny cx.M A (compareOp .NotIn y z) Q E s):=by
 replace ha:=ha.inv;induction a using V.casesOn with
 |str x=>
  induction ha using oE.casesOn with
  |mk t=>
   refine aK e fun fs q e=> ?_;obtain⟨a,es,ep,rfl,g,rr,rN⟩:=xO H.rel hb q;have hm:=wA (cx:=cx) g rr;have fu:=tU es x rr.noRef;have key:(findBy Value.isStrOf es.toArray x).isSome=r:=by
    rw[←qc e];induction hv:lk x fs using qe with
    |some v=>obtain⟨u,hu,_⟩:=(rr.find x).1 v hv;rw[hu]at fu;rw[←qc fu];rfl
    |none=>rw[(rr.find x).2 hv]at fu;rw[←qc fu];rfl
   exact⟨fun Q h=>wpAny_in_of (knd:=strKind cx.prog cx.w) (strKind_is cx.prog cx.w x t) (rN H.base) hm (key▸h _),fun Q h=>wpAny_notIn_of (knd:=strKind cx.prog cx.w) (strKind_is cx.prog cx.w x t) (rN H.base) hm (key▸h _)⟩
 |_=>exact nn e
theorem RG(H:au cx k A I σ st s)(ha:aq I cx.P σ st.length a y)(hb:aq I cx.P σ st.length b z)(e:VS st a b=some r):
  (∀Q:dS,(∀t,Q (.bool r) {s with toks:=t})→wpAny cx.M A (compareOp .In y z) Q E s)∧(∀Q:dS,(∀t,Q (.bool (!r)) {s with toks:=t})→wpAny cx.M A (compareOp .NotIn y z) Q E s):=by
 induction b using V.casesOn with
 |tup vs=>
  replace hb:=hb.inv;induction hb using iW.casesOn with
  |mk g q=>
   rename_i a' n xs
   have it:s.heap.IsTuple a' xs.toArray:=⟨_,H.rel.sub _ _ g,rfl,n,rfl⟩;obtain⟨h1,h2⟩:=Tu (A:=A.in1) (s:=s) ha _ q e;have h3:xs.toArray.any (fun z=>xP z y)=r:=(List.any_toArray ..).trans h2;exact⟨fun Q h=>in_tupleAt (fun z=>xP z y) it (fun z hz=>h1 z (List.mem_toArray.mp hz)) (h3.symm▸h s.toks),fun Q h=>notIn_tupleAt (fun z=>xP z y) it (fun z hz=>h1 z (List.mem_toArray.mp hz)) (h3.symm▸h s.toks)⟩
 |_=>exact IS H ha hb e
theorem G8{y z:Value}{Q:dS}(H:au cx k A I σ st s)(ha:aq I cx.P σ st.length a y)(hb:aq I cx.P σ st.length b z)(e:Pb st op a b=some v)
  (h:∀x t,aq I cx.P σ st.length v x→Q x {s with toks:=t}):wpAny cx.M A (compareOp op y z) Q E s:=by
 induction op using PySem.CmpOp.casesOn with
 |Is=>
  obtain⟨b',h1,rfl⟩:=lq (cW e);rw[Cw hb (cP e)];exact is_none (by rw[z6 ha h1,wu];exact h _ s.toks (.bool _))
 |IsNot=>
  obtain⟨b',h1,rfl⟩:=lq (cW e);rw[Cw hb (cP e)];exact isNot_none (by rw[z6 ha h1,Bool.not_not];exact h _ s.toks (.bool _))
 |Eq=>
  obtain⟨b',h1,rfl⟩:=lq e;exact(LU H ha hb h1).1 _ _ _ _ (h _ s.toks (.bool _))
 |NotEq=>
  obtain⟨b',h1,rfl⟩:=lq e;exact(LU H ha hb h1).2 _ _ _ _ (by rw[wu];exact h _ s.toks (.bool _))
 |Lt=>
  obtain⟨b',h1,rfl⟩:=lq e;refine RB ha hb h1 fun i j hi hj hr=> ?_;induction hi using fY.casesOn;induction hj using fY.casesOn
  exact P.lt_int (by rw[LR,hr];exact h _ s.toks (.bool _))
 |Gt=>
  obtain⟨b',h1,rfl⟩:=lq e;refine RB hb ha h1 fun i j hi hj hr=> ?_;induction hi using fY.casesOn;induction hj using fY.casesOn
  exact P.gt_int (by show Q (.bool (decide (_<_))) s;rw[LR,hr];exact h _ s.toks (.bool _))
 |In=>
  obtain⟨b',h1,rfl⟩:=lq e;exact(RG H ha hb h1).1 _ fun t=>h _ t (.bool _)
 |NotIn=>
  obtain⟨b',h1,rfl⟩:=lq e;exact(RG H ha hb h1).2 _ fun t=>by rw[wu];exact h _ t (.bool _)
 |_=>exact nn e
end
noncomputable def LX(op:CmpOp)(x y:Int):Option V:=match op with
 |.Eq=>some (.nG (x==y))
 |.NotEq=>some (.nG (!(x==y)))
 |.Lt=>some (.nG (decide (x<y)))
 |.Gt=>some (.nG (decide (y<x)))
 |_=>none
noncomputable def Pc(st:St)(op:CmpOp)(a b:V):Option V:=match IQ a b with
 |some p=>match p.1 with
  |true=>LX op p.2.1 p.2.2
  |false=>Pb st op a b
 |none=>Pb st op a b
noncomputable def IT(st:St)(v:V):aA (Bool×St):=match v with
 |.none=>.ok (false,st)
 |.bool b=>.ok (b,st)
 |.nG b=>.fork b fun c=>.ok (c,st)
 |_=>.bad
section
variable{cx:Cx}{k:Nat}{A:Around}{I:IM}{σ:Nat→Addr}{st:St}{s:Shared}{E:dS}
theorem LY(ha:fY i y)(hb:fY j z)(e:LX op i j=some v)
  (h:∀x t,aq I cx.P σ st.length v x→Q x {s with toks:=t}):wpAny cx.M A (compareOp op y z) Q E s:=by
 induction ha using fY.casesOn;induction hb using fY.casesOn
 induction op using PySem.CmpOp.casesOn with
 |Eq=>obtain rfl:=qc e;exact RcAt.int_int _ _ _ _ _ _ _ _ (h _ s.toks (.nG _))
 |NotEq=>obtain rfl:=qc e;exact RcNeAt.int_int _ _ _ _ _ _ _ _ (h _ s.toks (.nG _))
 |Lt=>obtain rfl:=qc e;exact P.lt_int (h _ s.toks (.nG _))
 |Gt=>obtain rfl:=qc e;exact P.gt_int (h _ s.toks (.nG _))
 |_=>exact nn e
theorem Ec(H:au cx k A I σ st s)(ha:aq I cx.P σ st.length a y)(hb:aq I cx.P σ st.length b z)(e:Pc st op a b=some v)
  (h:∀x t,aq I cx.P σ st.length v x→Q x {s with toks:=t}):wpAny cx.M A (compareOp op y z) Q E s:=by
 unfold Pc at e;induction hp:IQ a b using qe with
 |none=>rw[hp]at e;exact G8 H ha hb e h
 |some p=>
  rw[hp]at e;dsimp only at e;induction q:p.1 using qd with
  |false=>rw[q]at e;exact G8 H ha hb e h
  |true=>rw[q]at e;exact LY (xQ ha hb hp).1 (xQ ha hb hp).2 e h
theorem G9(hv:aq I cx.P σ st.length v y)(e:Good cx.S cx.pre (IT st v) R)(h:∀b,R (b,st)→Q b s):wpAny cx.M A (truthy y) Q E s:=by
 replace hv:=hv.inv;induction v using V.casesOn with
 |none=>subst hv;exact pV (h _ e)
 |bool=>subst hv;exact wpAny_truthy_bool (h _ e)
 |nG=>subst hv;exact wpAny_truthy_bool (h _ e)
 |_=>exact e.elim
end
abbrev EV(cx:Cx)(I:IM)(σ:Nat→Addr)(st:St)(s:Shared)(Q:dS):V×St→Prop:=Ends cx (fun _=>False) I σ st.length s (RV cx) Q
section
variable{cx:Cx}{st:St}
theorem EV.tok(e:EV cx I σ st s Q (v,st))(H:au cx k A I σ st s)(r:aq I cx.P σ st.length v y)(t:Nat):Q y {s with toks:=t}:=
 e I σ y {s with toks:=t} (aM.refl H.rel) ⟨rfl,rfl,rfl⟩ r
theorem EV.ext(e:EV cx I σ st s Q (v,st'))(x:aM cx.P (fun _=>False) I σ st.length s.heap I σ st' s'.heap)(sm:bw s s')(r:aq I cx.P σ st'.length v y):Q y s':=
 e I σ y s' x sm r
theorem EV.DY(e:EV cx I σ st s Q (v,st))(H:au cx k A I σ st s)(ho:o.isFreed=false)(t:Nat)
  (r:aq (dW I s.heap.objs.size o) cx.P σ st.length v (.ref s.heap.objs.size)):Q (.ref s.heap.objs.size) {s with heap:=s.heap.push o,toks:=t}:=
 e (dW I s.heap.objs.size o) σ _ {s with heap:=s.heap.push o,toks:=t} (aM.Y9 H.rel ho) ⟨rfl,rfl,rfl⟩ r
theorem Za(H:au cx k A I σ st s)(o:Obj):Le I (dW I s.heap.objs.size o) σ σ st.length st.length:=
 ⟨lO o (H.rel.pZ (dD _)),fun _ _=>rfl,qf _⟩
theorem Ed(σ:Nat→Addr)(st:St)(I:IM)(a:Addr):Le I I σ (gj σ st.length a) st.length (st.length+1):=Bt ..
theorem EV.Bu(e:EV cx I σ st s Q (.loc st.length,st++[ao]))(H:au cx k A I σ st s)(ho:o.isFreed=false)(t:Nat)
  (r:dw I cx.P (gj σ st.length s.heap.objs.size) (st.length+1) ao o):Q (.ref s.heap.objs.size) {s with heap:=s.heap.push o,toks:=t}:=
 e I (gj σ st.length s.heap.objs.size) _ {s with heap:=s.heap.push o,toks:=t} (aM.zW H.rel ho r) ⟨rfl,rfl,rfl⟩ (by
  have:=aq.loc (I:=I) (P:=cx.P) (σ:=gj σ st.length s.heap.objs.size) (n₀:=(st++[ao]).length) st.length (by simp);rw[eH]at this;exact this)
noncomputable def Cy(v:V):Option (Bool×Int):=match v with
 |.int i=>some (false,i)
 |.num i=>some (true,i)
 |_=>none
noncomputable def z8(s:Bool)(i:Int):V:=match s with
 |true=>.num i
 |false=>.int i
noncomputable def Cz(a b:Bool):Bool:=match a with
 |true=>true
 |false=>b
theorem um(r:aq I P σ n v y)(e:Cy v=some p):∃t,y=.int p.2 t:=by
 have h:=r.inv;clear r;induction v using V.casesOn with
 |int=>obtain rfl:=qc e;induction h using fY.casesOn with|mk t=>exact⟨t,rfl⟩
 |num=>obtain rfl:=qc e;induction h using fY.casesOn with|mk t=>exact⟨t,rfl⟩
 |_=>exact nn e
theorem ni(s:Bool)(i:Int)(t:Tok):aq I P σ n (z8 s i) (.int i t):=by
 induction s using qd
 ·exact .int i t
 ·exact .num i t
noncomputable def eW(a b:Bool):Bool:=match a with
 |true=>b
 |false=>false
theorem bk(h:eW a b=true):a=true∧b=true:=by induction a using qd with|true=>exact⟨rfl,h⟩|false=>exact ft h
mutual
noncomputable def kF(c:Nat):V→Bool
 |.loc k=>Nat.blt k c
 |.tup vs=>uU c vs
 |.jy _ fs=>pS c fs
 |_=>true
noncomputable def uU(c:Nat):List V→Bool
 |[]=>true
 |v::vs=>eW (kF c v) (uU c vs)
noncomputable def pS(c:Nat):ai→Bool
 |[]=>true
 |v::vs=>eW (kF c v.2) (pS c vs)
end
theorem dg(h:kF c v=true)(h2:uU c vs=true):uU c (v::vs)=true:=by
 show eW _ _=true;rw[h];exact h2
noncomputable abbrev aJ:V→Bool:=kF 0
noncomputable abbrev bB:List V→Bool:=uU 0
section
theorem oJ(li:f7 I I')(ls:∀k,k<c→af k=σ k)(hm:c≤m)(h:aq I P σ n v x)(e:kF c v=true):aq I' P af m v x:=
 V.rec (motive_1:=fun v=>∀x,aq I P σ n v x→kF c v=true→aq I' P af m v x) (motive_2:=fun v=>∀x,aG I P σ n v x→uU c v=true→aG I' P af m v x)
  (motive_3:=fun v=>∀x,iX I P σ n v x→pS c v=true→iX I' P af m v x) (motive_4:=fun v=>∀x,aq I P σ n v.2 x→kF c v.2=true→aq I' P af m v.2 x)
  (fun _ h _=>h) (fun _ _ h _=>h) (fun _ _ h _=>h) (fun _ _ h _=>h) (fun _ _ h _=>h) (fun _ _ h _=>h) (fun _ _ h _=>h)
  (fun _ _ h e=>iH.imp (fun _=>⟨ls _ (Nat.blt_eq.mp e),qz (Nat.blt_eq.mp e) hm⟩) h) (fun _ ih _ h e=>iW.imp li (fun _ h=>ih _ h e) h) (fun _ _ _ h _=>mY.imp li (fun _ r=>r.mono (Le.zero li)) h)
  (fun _ _ _ _ h _=>pX.imp li (fun _ r=>r.mono (Le.zero li)) h) (fun _ _ _ h _=>tQ.imp li (fun _ r=>r.mono (Le.zero li)) h) (fun _ _ h _=>uQ.imp li h) (fun _ _ ih _ h e=>rG.imp li (fun _ h=>ih _ h e) h)
  (fun _ _ h _=>h) (fun _ _ h _=>h) (fun _ _ h _=>h)
  (fun _ h _=>h) (fun _ _ a b _ h e=>dP.imp (fun _ h=>a _ h (bk e).1) (fun _ h=>b _ h (bk e).2) h) (fun _ h _=>h)
  (fun _ _ a b _ h e=>nH.imp li (fun _ h=>a _ h (bk e).1) (fun _ h=>b _ h (bk e).2) h) (fun _ _ ih=>ih) v x h e
theorem Ef(li:f7 I I')(ls:∀k,k<c→af k=σ k)(hm:c≤m):∀{x:LV},aG I P σ n v x→uU c v=true→aG I' P af m v x:=by
 induction v with
 |nil=>intro x h _;replace h:=h.inv;subst h;exact .nil
 |cons a v ih=>intro x h e;replace h:=h.inv;induction h using dP.casesOn with|mk h r=>exact .cons (oJ li ls hm h (bk e).1) (ih r (bk e).2)
theorem Eg(li:f7 I I')(ls:∀k,k<c→af k=σ k)(hm:c≤m):∀{x:List DictEntry},bF I P σ n v x→pS c v=true→bF I' P af m v x:=by
 induction v with
 |nil=>intro x h _;replace h:=h.inv;subst h;exact .nil
 |cons a v ih=>intro x h e;replace h:=h.inv;induction h using gh.casesOn with|mk h r=>exact .cons (oJ li ls hm h (bk e).1) (ih r (bk e).2)
theorem ki(h:aq I P σ n v x)(e:aJ v=true):aq I P (fun _=>0) 0 v x:=oJ (fun _ _ e=>e) (fun k q=>absurd q (qr k)) (qf 0) h e
theorem mz(h:aG I P σ n v x)(e:bB v=true):aG I P (fun _=>0) 0 v x:=Ef (fun _ _ e=>e) (fun k q=>absurd q (qr k)) (qf 0) h e
end
noncomputable def strOf(v:V):Option Str:=match v with
 |.str x=>some x
 |_=>none
noncomputable def uV(v:V):Option Nat:=match v with
 |.loc l=>some l
 |_=>none
noncomputable def Eh(v:V):Option Int:=match v with
 |.int i=>some i
 |_=>none
noncomputable def Dw(v:V):Option (List V):=match v with
 |.tup vs=>some vs
 |_=>none
section
variable{P:Params}
theorem Ei(hv:aq I P σ n v y)(e:strOf v=some x):oE x y:=by
 have h:=hv.inv;clear hv;induction v using V.casesOn with
 |str=>exact qc e▸h
 |_=>exact nn e
theorem uo(hv:aq I P σ n v y)(e:uV v=some l):iH σ n l y:=by
 have h:=hv.inv;clear hv;induction v using V.casesOn with
 |loc=>exact qc e▸h
 |_=>exact nn e
theorem z9(hv:aq I P σ n v y)(e:Eh v=some i):fY i y:=by
 have h:=hv.inv;clear hv;induction v using V.casesOn with
 |int=>exact qc e▸h
 |_=>exact nn e
theorem Ej(hv:aq I P σ n v y)(e:Dw v=some vs):iW I (aG I P σ n vs) y:=by
 have h:=hv.inv;clear hv;induction v using V.casesOn with
 |tup=>exact qc e▸h
 |_=>exact nn e
end
noncomputable def orElse{α:Type}(o:Option α)(x:α):α:=match o with
 |some v=>v
 |none=>x
noncomputable def pC(st:St)(v:V):Option (List V):=match v with
 |.lst vs=>some vs
 |.loc l=>cC (listAt st l) fun pv=>fH (eB pv.1) (fH (bB pv.2) (some pv.2))
 |_=>none
theorem Aa(r:cF cx.P I σ st h)(hv:aq I cx.P σ st.length v y)(e:pC st v=some vs):
  ∃a xs ep,y=.ref a∧h.get? a=some {cls:=.type "list",data:=.seq xs.toArray ep}∧aG I cx.P (fun _=>0) 0 vs xs:=by
 replace hv:=hv.inv;induction v using V.casesOn with
 |lst ws=>induction hv using mY.casesOn with|mk g q=>exact⟨_,_,_,rfl,r.sub _ _ g,(qc e:ws=vs)▸q⟩
 |loc l=>
  induction hv using iH.casesOn
  refine aK e fun pv q e=> ?_;obtain⟨xs,ep,g,rr,_⟩:=r.listAt (p:=pv.1) (vs:=pv.2) q;rw[cH (cP e)]at g;exact⟨_,xs,ep,rfl,g,qc (cW (cW e))▸mz rr (cP (cW e))⟩
 |_=>exact nn e
noncomputable def binI(op:Operator)(s:Bool)(x y:Int):aA V:=match op with
 |.Add=>.ok (z8 s (x+y))
 |.Sub=>.ok (z8 s (x-y))
 |.Mult=>.need (IntMulOk x y) (.ok (z8 s (x*y)))
 |.Mod=>dQ (i8 (rM y 0)) (.ok (z8 s (x.fmod y)))
 |.FloorDiv=>dQ (i8 (rM y 0)) (.need (¬(Builtin.divisionGoesByPylong x y)=true) (.ok (z8 s (x.fdiv y))))
 |.Pow=>.need (0≤y∧(Builtin.Int.intBits x:Int)*y≤2^27) (.ok (z8 s (x^y.toNat)))
 |_=>.bad
noncomputable def VU(n:Int)(vs:List V):aA V:=match rM n 0 with
 |true=>.ok (.lst [])
 |false=>dQ (rM n 1) (.ok (.lst vs))
noncomputable def VV(st:St)(op:Operator)(a b:V):aA V:=match op with
 |.Add=>cy (pC st a) fun vs=>cy (pC st b) fun ws=>.need (vs.length+ws.length<1000) (.ok (.lst (vs++ws)))
 |.Mult=>cy (pC st a) fun vs=>cy (Eh b) fun n=>.need (vs.length<1000) (VU n vs)
 |_=>.bad
noncomputable def RH(op:Operator)(x:Str)(b:V):aA V:=match op with
 |.Add=>cy (strOf b) fun y=>.need ((x++y).length≤sizeLine) (.ok (.str (x++y)))
 |_=>.bad
noncomputable def Pd(st:St)(op:Operator)(a b:V):aA V:=match Cy a with
 |some p=>cy (Cy b) fun q=>binI op (Cz p.1 q.1) p.2 q.2
 |none=>match strOf a with
  |some x=>RH op x b
  |none=>VV st op a b
theorem GD{x y:Str}(h:(x.length==0)=true):x++y=y:=by
 have:x.cps.size=0:=by simpa[Str.length]using h
 show(⟨x.cps++y.cps⟩:Str)=y;have:x.cps= #[]:=Array.eq_empty_of_size_eq_zero this;rw[this];simp
theorem GF{x y:Str}(h:(y.length==0)=true):x++y=x:=by
 have:y.cps.size=0:=by simpa[Str.length]using h
 show(⟨x.cps++y.cps⟩:Str)=x;have:y.cps= #[]:=Array.eq_empty_of_size_eq_zero this;rw[this];rfl
theorem uW(H:au cx k A I σ st s)(r:aG I cx.P (fun _=>0) 0 vs xs)(e:EV cx I σ st s Q (.lst vs,st)):
  Q (.ref s.heap.objs.size) {s with heap:=s.heap.push {cls:=.type "list",data:=.seq xs.toArray}}:=
 EV.DY e H rfl s.toks (.lst (kX ..) (r.mono (Le.zero (lO _ (H.rel.pZ (dD _))))))
theorem IU(H:au cx k A I σ st s)(ga:s.heap.get? a=some {cls:=.type "list",data:=.seq xs.toArray n})(gb:s.heap.get? b=some {cls:=.type "list",data:=.seq ys.toArray m})
  (ra:aG I cx.P (fun _=>0) 0 vs xs)(rb:aG I cx.P (fun _=>0) 0 ws ys)(hl:vs.length+ws.length<1000)(e:EV cx I σ st s Q (.lst (vs++ws),st)):wpAny cx.M A (binaryOp .Add (.ref a) (.ref b)) Q E s:=by
 have e1:=ra.length;have e2:=rb.length;have q:xs.toArray++ys.toArray=(xs++ys).toArray:=by simp
 refine concat_meets ⟨_,ga,rfl⟩ ⟨_,gb,rfl⟩ noFill_list_add seq_list_add PySem.F.slot_list_add PySem.F.entry_list_add (PySem.F.args_list_add_2 _ _) (list_addW a b xs.toArray ys.toArray n m none none #[] #[] (by simp only[List.size_toArray,sizeLine_eq];lia)) ⟨ga,gb, ?_⟩;rw[q];exact uW H (ra.append rb) e
theorem Ab(H:au cx k A I σ st s)(ga:s.heap.get? a=some {cls:=.type "list",data:=.seq xs.toArray n})
  (hl:vs.length<1000)(ra:aG I cx.P (fun _=>0) 0 vs xs)(hx:(x=0∧EV cx I σ st s Q (.lst [],st))∨(x=1∧EV cx I σ st s Q (.lst vs,st))):wpAny cx.M A (binaryOp .Mult (.ref a) (.int x u)) Q E s:=by
 have e1:=ra.length;have RI:xs.toArray.size*x.toNat≤2^24:=by
  rcases hx with⟨rfl,_⟩|⟨rfl,_⟩
  ·exact nz
  ·simp;lia
 refine wpAny_binaryOp_repeat_ref (T:="list") (U:="int") (by decide) ⟨_,ga,rfl⟩ (fun s'=>typeIs_int s' x u) noFill_list_mul F.fills_int_mul F.slot_int_rmul repeat_list F.slot_int_index.lookup
  (call_meets F.slot_int_rmul (typeIs_int s x u) F.entry_int_rmul (F.args_int_rmul_2 _ _) (int___rmul___int_list x u a xs.toArray n)
   ⟨ga,rfl,⟨_,ga,rfl⟩,call_meets F.slot_list_mul ⟨_,ga,rfl⟩ F.entry_list_mul (F.args_list_mul_2 _ _)
    (AutoListH.list___mul___list_int_3 a xs.toArray n x u (by rcases hx with⟨rfl,_⟩|⟨rfl,_⟩<;>trivial) (by lia) (by simp only[Builtin.List.listTooLong,sizeLine];simp;assumption))
    ⟨ga, ?_⟩⟩)
 rcases hx with⟨rfl,e⟩|⟨rfl,e⟩
 ·have:List.foldl (fun x1 x2=>x1++x2) #[] (List.replicate (if xs.toArray.isEmpty=true then 0 else(0:Int).toNat) xs.toArray)=([]:LV).toArray:=by
   split<;>rfl
  rw[this];exact uW H .nil e
 ·have:List.foldl (fun x1 x2=>x1++x2) #[] (List.replicate (if xs.toArray.isEmpty=true then 0 else(1:Int).toNat) xs.toArray)=xs.toArray:=by
   induction xs using qh with
   |nil=>rfl
   |cons y ys=>
    show List.foldl (fun x1 x2=>x1++x2) #[] (List.replicate 1 _)=_;simp
  rw[this];exact uW H ra e
theorem Tz(H:au cx k A I σ st s)(g:Good cx.S cx.pre (binI op c x y) fun v=>EV cx I σ st s Q (v,st)):wpAny cx.M A (binaryOp op (.int x t) (.int y u)) Q E s:=by
 have nz:∀{y:Int},i8 (rM y 0)=true→¬(y==0)=true:=fun q e=>by rw[(pB _ _).symm.trans e]at q;exact ft q
 induction op using PySem.Operator.casesOn with
 |Add=>exact P.add_int (EV.tok g H (ni _ _ _) _)
 |Sub=>exact P.sub_int (EV.tok g H (ni _ _ _) _)
 |Mult=>exact P.mul_int (hm:=g.1) (EV.tok g.2 H (ni _ _ _) _)
 |Mod=>obtain⟨q,g⟩:=bA g;exact AutoIntOps.mod_1 (nz q) (EV.tok g H (ni _ _ _) _)
 |FloorDiv=>obtain⟨q,g⟩:=bA g;exact AutoIntOps.floordiv_1 (nz q) g.1 (EV.tok g.2 H (ni _ _ _) _)
 |Pow=>exact pow_int g.1.1 g.1.2 (EV.tok g.2 H (ni _ _ _) _)
 |_=>exact g.elim
theorem TA(H:au cx k A I σ st s)(ha:aq I cx.P σ st.length a y)(hb:aq I cx.P σ st.length b z)
  (g:Good cx.S cx.pre (VV st op a b) fun v=>EV cx I σ st s Q (v,st)):wpAny cx.M A (binaryOp op y z) Q E s:=by
 induction op using PySem.Operator.casesOn with
 |Add=>
  refine aN g fun vs q1 g=>aN g fun ws q2 g=> ?_;obtain⟨a',xs,n,rfl,ga,ra⟩:=Aa H.rel ha q1;obtain⟨b',ys,m,rfl,gb,rb⟩:=Aa H.rel hb q2;exact IU H ga gb ra rb g.1 g.2
 |Mult=>
  refine aN g fun vs q1 g=>aN g fun n q2 g=> ?_;obtain⟨a',xs,m,rfl,ga,ra⟩:=Aa H.rel ha q1;induction z9 hb q2 using fY.casesOn
  obtain⟨g1,g2⟩:=g;rw[VU]at g2;induction hn:rM n 0 using qd with
  |true=>rw[hn]at g2;exact Ab H ga g1 ra (.inl ⟨beq_iff_eq.mp ((pB _ 0).trans hn),g2⟩)
  |false=>
   rw[hn]at g2;obtain⟨hn,g2⟩:=bA g2;exact Ab H ga g1 ra (.inr ⟨beq_iff_eq.mp ((pB _ 1).trans hn),g2⟩)
 |_=>exact g.elim
theorem TF{b:V}{z:Value}{t:Tok}(H:au cx k A I σ st s)(hb:aq I cx.P σ st.length b z)(g:Good cx.S cx.pre (RH op x b) fun v=>EV cx I σ st s Q (v,st)):wpAny cx.M A (binaryOp op (.str x t) z) Q E s:=by
 induction op using PySem.Operator.casesOn with
 |Add=>
  refine aN g fun y hy g=> ?_;induction Ei hb hy using oE.casesOn
  obtain⟨g1,g2⟩:=g;have fin:∀u w n,u=x++y→Q (.str u w) {s with toks:=n}:=fun u w n e=>EV.tok g2 H (e▸.str _ _) _;refine P.add_str ?_
  split
  ·exact fin _ _ _ (GD ‹_›).symm
  ·split
   ·exact fin _ _ _ (GF ‹_›).symm
   ·exact⟨g1,fin _ _ _ rfl⟩
 |_=>exact g.elim
theorem VW(H:au cx k A I σ st s)(ha:aq I cx.P σ st.length a y)(hb:aq I cx.P σ st.length b z)
  (g:Good cx.S cx.pre (Pd st op a b) fun v=>EV cx I σ st s Q (v,st)):wpAny cx.M A (binaryOp op y z) Q E s:=by
 rw[Pd]at g;induction hp:Cy a using qe with
 |some p=>
  rw[hp]at g;refine aN g fun q hq g=> ?_;obtain⟨t,rfl⟩:=um ha hp;obtain⟨u,rfl⟩:=um hb hq;exact Tz H g
 |none=>
  rw[hp]at g;induction hx:strOf a using qe with
  |some x=>rw[hx]at g;induction Ei ha hx using oE.casesOn;exact TF H hb g
  |none=>rw[hx]at g;exact TA H ha hb g
theorem LZ(H:au cx k A I σ st s)(r:aG I cx.P σ st.length vs xs)(e:EV cx I σ st s Q (.tup vs,st)):
  Q (.ref s.heap.objs.size) {s with heap:=s.heap.push {cls:=.type "tuple",data:=.seq xs.toArray}}:=
 EV.DY e H rfl s.toks (.tup (kX ..) (r.mono (Za H _)))
theorem Pe(H:au cx k A I σ st s)(r:aG I cx.P σ st.length vs xs)(e:EV cx I σ st s Q (.loc st.length,st++[.list [] vs])):
  Q (.ref s.heap.objs.size) {s with heap:=s.heap.push {cls:=.type "list",data:=.seq xs.toArray}}:=
 EV.Bu e H rfl s.toks (.list (pre:=[]) 0 (by exact nz) (r.mono (Ed ..)))
end
noncomputable def VX(st:St)(v:V):aA V:=match v with
 |.tup vs=>dQ (Nat.blt (len vs) 500) (.ok (.int (.ofNat (len vs))))
 |.lst vs=>.need (vs.length<500) (.ok (.num (.ofNat vs.length)))
 |.loc l=>cy (listAt st l) fun pv=>.need (pv.2.length<500) (.ok (.int (.ofNat (Nat.add pv.1.length (len pv.2)))))
 |_=>.bad
noncomputable def kdOf(st:St)(v:V):Option Nat:=match v with
 |.none=>some 0
 |.bool _=>some 1
 |.int _=>some 2
 |.str _=>some 3
 |.tup _=>some 4
 |.lst _=>some 5
 |.inst C _=>some (C+7)
 |.loc l=>match listAt st l with
  |some _=>some 5
  |none=>match fieldsOf st (.loc l)with
   |some (C,_)=>some (C+7)
   |none=>none
 |_=>none
noncomputable def TY.num:TY→Nat:=fun t=>match t with
 |.list=>0
 |.tuple=>1
 |.str=>2
 |.int=>3
 |.bool=>4
 |.range=>5
noncomputable def Pf(v:V):Option Nat:=match v with
 |.ty t=>some t.num
 |.top a=>some (a+6)
 |_=>none
noncomputable def Ek(a b:Nat):List (Nat×Nat×Bool)→Option Bool
 |[]=>none
 |p::l=>match Nat.beq a p.1 with
  |true=>match Nat.beq b p.2.1 with
   |true=>some p.2.2
   |false=>Ek a b l
  |false=>Ek a b l
noncomputable def nL(a:Nat):List Nat→Bool
 |[]=>false
 |b::l=>match Nat.beq a b with
  |true=>true
  |false=>nL a l
noncomputable def IV(cx:Cx)(st:St)(v c:V):Option Bool:=match kdOf st v with
 |some a=>match Pf c with
  |some b=>match Nat.blt a 7 with
   |true=>Ek a b cx.tab.T.isin
   |false=>match nL (a-7) cx.tab.T.tR with
    |true=>Ek a b cx.tab.T.isin
    |false=>none
  |none=>none
 |none=>none
theorem BD:∀{l:List (Nat×Nat×Bool)},Ek a b l=some r→(a,b,r)∈l
 |p::l,e=>by
  unfold Ek at e
  split at e
  ·rename_i q
   split at e
   ·rename_i q2
    obtain rfl:=qc e;obtain rfl:=qt q;obtain rfl:=qt q2;exact .head _
   ·exact .tail _ (BD e)
  ·exact .tail _ (BD e)
theorem uX:∀{l:List Nat},nL a l=true→a∈l
 |b::l,e=>by
  unfold nL at e
  split at e
  ·rename_i q;rw[qt q];exact .head _
  ·exact .tail _ (uX e)
noncomputable def El:Int→Int:=fun a=>match a with
 |.ofNat n=>.ofNat n
 |.negSucc n=>.ofNat (n+1)
theorem TG(a:Int):(if a<0 then-a else a)=El a:=by
 induction a using qJ with
 |ofNat n=>rw[if_neg (by show¬(n:Int)<0;simp)];rfl
 |negSucc n=>rw[if_pos (by simp)];rfl
noncomputable def IW(st:St)(d x dflt:V):Option V:=cC (strOf x) fun x=>cC (oH st d) fun fs=>some (orElse (lk x fs) dflt)
noncomputable def a1{α:Type}:List α→Option α:=fun l=>match l with
 |[a]=>some a
 |_=>none
noncomputable def a2{α:Type}:List α→Option (α×α):=fun l=>match l with
 |[a,b]=>some (a,b)
 |_=>none
noncomputable def a3{α:Type}:List α→Option (α×α×α):=fun l=>match l with
 |[a,b,c]=>some (a,b,c)
 |_=>none
theorem Ad{α:Type}{l:List α}{p:α}(e:a1 l=some p):l=[p]:=by
 rcases l with _|⟨a,_|⟨b,l⟩⟩
 ·exact nn e
 ·exact qc e▸rfl
 ·exact nn e
theorem Ae{α:Type}{l:List α}{p:α×α}(e:a2 l=some p):l=[p.1,p.2]:=by
 rcases l with _|⟨a,_|⟨b,_|⟨c,l⟩⟩⟩
 ·exact nn e
 ·exact nn e
 ·exact qc e▸rfl
 ·exact nn e
theorem Zb{α:Type}{l:List α}{p:α×α×α}(e:a3 l=some p):l=[p.1,p.2.1,p.2.2]:=by
 rcases l with _|⟨a,_|⟨b,_|⟨c,_|⟨d,l⟩⟩⟩⟩
 ·exact nn e
 ·exact nn e
 ·exact nn e
 ·exact qc e▸rfl
 ·exact nn e
noncomputable def lu{α:Type}(st:St)(o:Option α):aA (α×St):=match o with
 |some a=>.ok (a,st)
 |none=>.bad
noncomputable def Af(cx:Cx)(b:BI)(args:List V)(st:St):aA (V×St):=match b with
 |.append=>cy (a2 args) fun p=>cy (uV p.1) fun l=>(xM st l p.2).bind fun st'=>.ok (.none,st')
 |.extend=>cy (a2 args) fun p=>cy (uV p.1) fun l=>(G6 st l p.2).bind fun st'=>.ok (.none,st')
 |.pop=>match a1 args with
  |some o=>cy (uV o) fun l=>Rp (VL st l)
  |none=>cy (a2 args) fun p=>cy (uV p.1) fun l=>cy (Eh p.2) fun n=>dQ (rM n 0) (Rv st l)
 |.IE=>match a2 args with
  |some p=>lu st (IW st p.1 p.2 .none)
  |none=>cy (a3 args) fun p=>lu st (IW st p.1 p.2.1 p.2.2)
 |.len=>cy (a1 args) fun v=>(VX st v).bind fun n=>.ok (n,st)
 |.zS=>cy (a2 args) fun p=>cy (IV cx st p.1 p.2) fun r=>.ok (.bool r,st)
 |.abs=>cy (a1 args) fun v=>cy (Cy v) fun p=>.ok (z8 p.1 (El p.2),st)
 |.repr=>.bad
 |.Br=>.bad
section
variable{cx:Cx}{st:St}
theorem _root_.Mine.Internal.aG.inv1(r:aG I P σ n [a] ys):∃y,ys=[y]∧aq I P σ n a y:=by
 replace r:=r.inv;induction r using dP.casesOn with
 |mk h r=>replace r:=r.inv;subst r;exact⟨_,rfl,h⟩
theorem _root_.Mine.Internal.aG.inv2(r:aG I P σ n [a,b] ys):∃y z,ys=[y,z]∧aq I P σ n a y∧aq I P σ n b z:=by
 replace r:=r.inv;induction r using dP.casesOn with
 |mk h r=>obtain⟨z,rfl,hz⟩:=aG.inv1 r;exact⟨_,_,rfl,h,hz⟩
theorem _root_.Mine.Internal.aG.VY(r:aG I P σ n [a,b,c] ys):∃y z u,ys=[y,z,u]∧aq I P σ n a y∧aq I P σ n b z∧aq I P σ n c u:=by
 replace r:=r.inv;induction r using dP.casesOn with
 |mk h r=>obtain⟨z,u,rfl,hz,hu⟩:=aG.inv2 r;exact⟨_,_,_,rfl,h,hz,hu⟩
theorem VZ(H:au cx k A I σ st s)(hv:aq I cx.P σ st.length v y)(e:Good cx.S cx.pre (VX st v) fun n=>EV cx I σ st s Q (n,st)):
  wpAny cx.M A (call (.builtin "len") [y]) Q E s:=by
 have hi:=hv.inv;induction v using V.casesOn with
 |tup vs=>
  obtain⟨hl,e⟩:=bA e;induction hi using iW.casesOn with
  | @mk a n xs g r=>
   have l1:=lP hl;have e1:=r.length;refine PyProof.Rows.len_tuple (items:=xs.toArray) ⟨_,H.rel.sub _ _ g,rfl,n,rfl⟩ (by rw[List.size_toArray,e1];lia) ?_;rw[List.size_toArray,e1,←i7];exact EV.tok e H (.int _ (s.toks+1)) (s.toks+1+1)
 |lst vs=>
  obtain⟨hl,e⟩:=e;induction hi using mY.casesOn with
  | @mk a n xs g r=>
   have e1:=r.length;refine call_len_list (items:=xs.toArray) ⟨_,H.rel.sub _ _ g,rfl,n,rfl⟩ (by rw[List.size_toArray,e1];lia) ?_;rw[List.size_toArray,e1];exact EV.tok e H (.num _ (s.toks+1)) (s.toks+1+1)
 |loc l=>
  refine aN e fun pv q e=> ?_;obtain⟨hl,e⟩:=e;induction hi using iH.casesOn with
  |mk hk=>
   obtain⟨xs,ep,g,r,hp⟩:=H.rel.listAt q;have e1:=r.length;have hn:Nat.add pv.1.length (len pv.2)=(pv.1++xs).toArray.size:=by rw[List.size_toArray,List.length_append,e1,i7];rfl
   refine call_len_list (items:=(pv.1++xs).toArray) ⟨_,g,rfl,ep,rfl⟩ (by rw[List.size_toArray,List.length_append];lia) ?_;rw[←hn];exact EV.tok e H (.int _ (s.toks+1)) (s.toks+1+1)
 |_=>exact e.elim
inductive Kit (K:Frag) (h:Heap) (y t:Value):Prop
 |mk {H:Heap→Prop} (Z:KitX K y t H) (p:H h) (hx:y≠.builtin "__main__.__loader__#opaque")
theorem Hf(H:au cx k A I σ st s)(hv:aq I cx.P σ st.length v y)(hf:fieldsOf st v=some (C,fs))(ho:Nat.blt (C+7) 7=true∨nL (C+7-7) cx.tab.T.tR=true):Kit cx.tab.K s.heap y (IF (C+7)):=by
 have hm:nL C cx.tab.T.tR=true:=ho.resolve_left fun q=>absurd (qo q) (Nat.not_le_of_lt (Nat.lt_succ_of_le (qg 7 C)));have ok:=List.all_eq_true.mp H.base.tabs.tR _ (uX hm);simp only[Rq,Bool.and_eq_true,beq_iff_eq]at ok;obtain⟨x,es,ep,d,rfl,ia,rf⟩:=Bw H.rel hv hf;exact⟨kitx_own ok.1.1.1.1.1 ok.1.1.1.1.2 ok.1.1.1.2 ok.1.1.2 ok.1.2 ok.2,ia,nofun⟩
theorem V0(H:au cx k A I σ st s)(hv:aq I cx.P σ st.length v y)(hk:kdOf st v=some a)(ho:Nat.blt a 7=true∨nL (a-7) cx.tab.T.tR=true):Kit cx.tab.K s.heap y (IF a):=by
 have h:=hv.inv;induction v using V.casesOn with
 |none=>subst(h:y=_);obtain rfl:=qc hk;exact⟨kitx_none,trivial,nofun⟩
 |bool b=>subst(h:y=_);obtain rfl:=qc hk;exact⟨kitx_bool,trivial,nofun⟩
 |int i=>obtain rfl:=qc hk;induction h using fY.casesOn;exact⟨kitx_int,trivial,nofun⟩
 |str x=>obtain rfl:=qc hk;induction h using oE.casesOn;exact⟨kitx_str,trivial,nofun⟩
 |tup vs=>obtain rfl:=qc hk;induction h using iW.casesOn with|mk g r=>exact⟨kitx_tuple,⟨_,H.rel.sub _ _ g,rfl⟩,nofun⟩
 |lst vs=>obtain rfl:=qc hk;induction h using mY.casesOn with|mk g r=>exact⟨kitx_list,⟨_,H.rel.sub _ _ g,rfl⟩,nofun⟩
 |inst C fs=>obtain rfl:=qc hk;exact Hf H hv rfl ho
 |loc l=>
  unfold kdOf at hk;dsimp only at hk;induction q:listAt st l using qe with
  |some pv=>
   rw[q]at hk;obtain rfl:=qc hk;induction h using iH.casesOn
   obtain⟨xs,ep,g,_⟩:=H.rel.listAt q;exact⟨kitx_list,⟨_,g,rfl⟩,nofun⟩
  |none=>
   rw[q]at hk;dsimp only at hk;induction q2:fieldsOf st (.loc l)using qe with
   |none=>rw[q2]at hk;exact nn hk
   |some p=>rw[q2]at hk;obtain rfl:=qc hk;exact Hf H hv q2 ho
 |_=>exact nn hk
theorem Zc(hc:aq I cx.P σ n c z)(e:Pf c=some b):z=IG b:=by
 have h:=hc.inv;clear hc;induction c using V.casesOn with
 |ty t=>obtain rfl:=qc e;subst(h:z=_);induction t using TY.casesOn<;>rfl
 |top a=>obtain rfl:=qc e;exact h
 |_=>exact nn e
theorem TH(H:au cx k A I σ st s)(hv:aq I cx.P σ st.length v y)(hc:aq I cx.P σ st.length c z)(e:IV cx st v c=some r)(h:EV cx I σ st s Q (.bool r,st)):
  wpAny cx.M A (call (.builtin "isinstance") [y,z]) Q E s:=by
 unfold IV at e;induction hk:kdOf st v using qe with
 |none=>rw[hk]at e;exact nn e
 |some a=>induction hb:Pf c using qe with
  |none=>rw[hk,hb]at e;exact nn e
  |some b=>
   rw[hk,hb]at e;dsimp only at e;rw[Zc hc hb];have fin:Ek a b cx.tab.T.isin=some r→(Nat.blt a 7=true∨nL (a-7) cx.tab.T.tR=true)→wpAny cx.M A (call (.builtin "isinstance") [y,IG b]) Q E s:=fun hl ho=>
    match V0 H hv hk ho with
    |.mk Z p hx=>kia_one Z (H.base.zU H.rel.sub) p (beq_iff_eq.mp (List.all_eq_true.mp H.base.tabs.isin _ (BD hl))) hx fun tk=>EV.tok h H (.bool r) tk
   induction q:Nat.blt a 7 using qd with
   |true=>rw[q]at e;exact fin e (.inl q)
   |false=>
    rw[q]at e;dsimp only at e;induction q2:nL (a-7) cx.tab.T.tR using qd with
    |true=>rw[q2]at e;exact fin e (.inr q2)
    |false=>rw[q2]at e;exact nn e
theorem Hg(H:au cx k A I σ st s)(hd:aq I cx.P σ st.length d yd)(hx:aq I cx.P σ st.length x yx)(hw:aq I cx.P σ st.length w yw)
  (e:IW st d x w=some v)(h:EV cx I σ st s Q (v,st)):
  wpAny cx.M A (call (.builtin "dict.get") [yd,yx,yw]) Q E s∧(yw=.none→wpAny cx.M A (call (.builtin "dict.get") [yd,yx]) Q E s):=by
 refine aK e fun x' hx' e=>aK e fun fs q e=> ?_;induction Ei hx hx' using oE.casesOn with
 |mk t=>
  obtain⟨a,es,ep,rfl,g,rr,rN⟩:=xO H.rel hd q;have hm:=wA (cx:=cx) g rr;have fu:=tU es x' rr.noRef;have hs:=rN H.base;have key:aq I cx.P σ st.length v ((findBy Value.isStrOf es.toArray x').getD yw):=by
   rw[←qc e];induction q2:lk x' fs using qe with
   |some u=>
    obtain⟨z,hz,rz⟩:=(rr.find x').1 _ q2;rw[hz]at fu;rw[←qc fu];exact rz
   |none=>
    rw[(rr.find x').2 q2]at fu;rw[←qc fu];exact hw
  refine⟨?_,fun hn=> ?_⟩
  ·exact call_meetsIn PySem.F.slot_dict_get ⟨_,g,rfl⟩ PySem.F.entry_dict_get (PySem.F.args_dict_get_3 _ _ _) (meets_dict_get_default (strKind cx.prog cx.w) a (strKind_is cx.prog cx.w x' t) hs yw) ⟨_,hm,EV.tok h H key _⟩
  ·subst hn;exact call_meetsIn PySem.F.slot_dict_get ⟨_,g,rfl⟩ PySem.F.entry_dict_get (PySem.F.args_dict_get_2 _ _) (meets_dict_get (strKind cx.prog cx.w) a (strKind_is cx.prog cx.w x' t) hs) ⟨_,hm,EV.tok h H key _⟩
theorem Ag{α:Type}{S:Spec}{pre:Nat→Addr→List V→St→Prop}{st:St}{o:Option α}{R:α×St→Prop}{G:Prop}(g:Good S pre (lu st o) R)(h:∀x,o=some x→R (x,st)→G):G:=by
 induction o using qe with
 |none=>exact g.elim
 |some x=>exact h x rfl g
theorem TJ{args:List V}{ys:LV}(H:au cx k A I σ st s)(r:aG I cx.P σ st.length args ys)(g:Good cx.S cx.pre (Af cx b args st) (EV cx I σ st s Q)):
  wpAny cx.M A (call (.builtin b.id) ys) Q E s:=by
 induction b using BI.casesOn with
 |append=>
  refine aN g fun p hp g=>aN g fun l hl g=> ?_;rw[Ae hp]at r;obtain⟨y1,y2,rfl,h1,h2⟩:=r.inv2;exact(by obtain⟨_⟩:=uo h1 hl;exact yG H h2 (Good.bind g) fun st' s' e x sm=>EV.ext e x sm .none)
 |extend=>
  refine aN g fun p hp g=>aN g fun l hl g=> ?_;rw[Ae hp]at r;obtain⟨y1,y2,rfl,h1,h2⟩:=r.inv2;exact(by obtain⟨_⟩:=uo h1 hl;exact GC H h2 (Good.bind g) fun st' s' e x sm=>EV.ext e x sm .none)
 |pop=>
  unfold Af at g;dsimp only at g;induction q:a1 args using qe with
  |some o=>
   rw[q]at g;refine aN g fun l hl g=> ?_;rw[Ad q]at r;obtain⟨⟨v,st'⟩,q,g⟩:=DW g;obtain⟨y1,rfl,h1⟩:=r.inv1;exact(by obtain⟨_⟩:=uo h1 hl;exact O4 H q fun y s' x sm ry=>EV.ext g x sm (ry.mono ⟨fun _ _ e=>e,fun _ _=>rfl,x.le.n⟩))
  |none=>
   rw[q]at g;refine aN g fun p hp g=>aN g fun l hl g=>aN g fun i hi g=> ?_;obtain⟨hn,g⟩:=bA g;rw[Ae hp]at r;obtain⟨y1,y2,rfl,h1,h2⟩:=r.inv2;have h2:=z9 h2 hi;rw[beq_iff_eq.mp ((pB _ 0).trans hn)]at h2;exact(by obtain⟨_⟩:=uo h1 hl;obtain⟨_⟩:=h2;exact LM H g fun v st' y s' e x sm ry=>EV.ext e x sm (ry.mono ⟨fun _ _ e=>e,fun _ _=>rfl,x.le.n⟩))
 |IE=>
  unfold Af at g;dsimp only at g;induction q:a2 args using qe with
  |some p=>
   rw[q]at g;refine Ag g fun v q2 g=> ?_;rw[Ae q]at r;obtain⟨y1,y2,rfl,h1,h2⟩:=r.inv2;exact(Hg H h1 h2 .none q2 g).2 rfl
  |none=>
   rw[q]at g;refine aN g fun p hp g=>Ag g fun v q2 g=> ?_;rw[Zb hp]at r;obtain⟨y1,y2,y3,rfl,h1,h2,h3⟩:=r.VY;exact(Hg H h1 h2 h3 q2 g).1
 |len=>
  refine aN g fun v hp g=> ?_;rw[Ad hp]at r;obtain⟨y1,rfl,h1⟩:=r.inv1;exact VZ H h1 (Good.bind g)
 |zS=>
  refine aN g fun p hp g=>aN g fun b q g=> ?_;rw[Ae hp]at r;obtain⟨y1,y2,rfl,h1,h2⟩:=r.inv2;exact TH H h1 h2 q g
 |abs=>
  refine aN g fun v hp g=>aN g fun p q g=> ?_;rw[Ad hp]at r;obtain⟨y1,rfl,h1⟩:=r.inv1;obtain⟨t,rfl⟩:=um h1 q;exact call_abs_int fun u tk=>by rw[TG];exact EV.tok g H (ni _ _ u) tk
 |_=>exact g.elim
noncomputable def aaV(st:St)(v:V):aA (V×St):=match v with
 |.bool b=>.ok (.int (p7 b),st)
 |.nG b=>.fork b fun c=>.ok (.int (p7 c),st)
 |.int n=>.ok (.int n,st)
 |_=>.bad
noncomputable def RJ:Int→Option Nat:=fun i=>match i with
 |.ofNat n=>some n
 |.negSucc _=>none
theorem Pg(e:RJ i=some n):i=.ofNat n:=by
 induction i using qJ with
 |ofNat=>exact congrArg Int.ofNat (qc e)
 |negSucc=>exact nn e
noncomputable def Em(t:TY)(args:List V)(st:St):aA (V×St):=cy (a1 args) fun v=>match t with
 |.list=>cy (xN st v) fun vs=>.need (vs.length<500) (.ok (.loc st.length,st++[.list [] vs]))
 |.tuple=>cy (Dw v) fun vs=>.ok (.tup vs,st)
 |.str=>cy (Cy v) fun p=>.need (p.2.natAbs.log2<1920) (.ok (.str (Str.ofString (toString p.2)),st))
 |.int=>aaV st v
 |.bool=>.bad
 |.range=>cy (cC (Eh v) RJ) fun m=>.ok (.vO m,st)
theorem Hh(H:au cx k A I σ st s)(r:aG I cx.P σ st.length args ys)(g:Good cx.S cx.pre (Em t args st) (EV cx I σ st s Q)):
  wpAny cx.M A (call (.type t.id) ys) Q E s:=by
 refine aN g fun v hp g=> ?_;rw[Ad hp]at r;obtain⟨y1,rfl,h1⟩:=r.inv1;clear r;induction t using TY.casesOn with
 |list=>
  refine aN g fun vs q g=> ?_;obtain⟨a,xs,ep,T,rfl,hT,ga,rr⟩:=zp H.rel h1 q;have e1:=rr.length;have l1:vs.length<500:=g.1;refine call_list_seq a hT ga rfl rfl (fun h' c' kp gn=> ?_) (by rw[List.size_toArray,sizeLine_eq];lia);have ex:=aM.Bu (ao:=.list [] vs) H.rel kp (dD _) gn (.list (pre:=[]) c' (by exact nz) (rr.mono (Ed ..)));refine g.2 I _ _ {s with heap:=h'} ex ⟨rfl,rfl,rfl⟩ ?_;have:=aq.loc (I:=I) (P:=cx.P) (σ:=gj σ st.length s.heap.objs.size) (n₀:=(st++[AO.list [] vs]).length) st.length (by simp);rw[eH]at this;exact this
 |tuple=>
  refine aN g fun vs q g=> ?_;induction Ej h1 q using iW.casesOn with
  |mk gg rr=>exact call_tuple_same (items:=_) ⟨_,H.rel.sub _ _ gg,rfl,_,rfl⟩ (EV.tok g H (.tup gg rr) s.toks)
 |str=>
  refine aN g fun p q g=> ?_;obtain⟨t,rfl⟩:=um h1 q;exact P.str_of_int g.1 (EV.tok g.2 H (.str _ _) _)
 |int=>
  have h:=h1.inv;clear h1 hp;induction v using V.casesOn with
  |bool b=>subst(h:y1=_);exact call_int_bool (by rw[kZ];exact EV.tok g H (.int _ _) _)
  |nG b=>subst(h:y1=_);exact call_int_bool (by rw[kZ];exact EV.tok g H (.int _ _) _)
  |int i=>induction h using fY.casesOn;exact call_int_int (EV.tok g H (.int _ _) s.toks)
  |_=>exact g.elim
 |range=>
  refine aN g fun m hm g=>aK hm fun i hi hm=> ?_;have h2:=z9 h1 hi;rw[Pg hm]at h2;exact(by obtain⟨_⟩:=h2;exact call_range_1 (EV.DY g H rfl _ (.vO _ (kX ..))))
 |_=>exact g.elim
end
set_option genInjectivity false in
structure Ev where
 e:Nat→FE→ai→St→Expr→aA (V×St)
 t:Nat→FE→ai→St→Expr→aA (Bool×St)
 b:Nat→FE→ai→St→List Stmt→aA ((Out×ai)×St)
 c:Nat→V→List V→St→aA (V×St)
def rO(I:IM)(P:Params)(σ:Nat→Addr)(n:Nat)(o:Out)(f:Flow):Prop:=match o with
 |.next=>f=.next
 |.brk=>f=.brk
 |.cont=>f=.cont
 |.ret v=>∃y,f=.ret y∧aq I P σ n v y
section
variable{P:Params}
theorem rO.next:rO I P σ n .next .next:=rfl
theorem rO.brk:rO I P σ n .brk .brk:=rfl
theorem rO.cont:rO I P σ n .cont .cont:=rfl
theorem rO.ret(h:aq I P σ n v y):rO I P σ n (.ret v) (.ret y):=⟨y,rfl,h⟩
end
abbrev EB(cx:Cx)(I:IM)(σ:Nat→Addr)(st:St)(s:Shared)(Q:Bool→SP):Bool×St→Prop:=Ends cx (fun _=>False) I σ st.length s (fun _ _ _ b c _=>b=c) Q
abbrev EO(cx:Cx)(fe:FE)(env:Env)(I:IM)(σ:Nat→Addr)(st:St)(s:Shared)(Q:Flow→SP):(Out×ai)×St→Prop:=
 Ends cx (aF env) I σ st.length s (fun I σ st o f s=>rO I cx.P σ st.length o.1 f∧av cx.P fe o.2 env I σ st.length s.heap) Q
structure aU (cx:Cx) (ev:Ev):Prop where
 e:∀{k A I σ st s E fe m env x} {Q:dS},au cx k A I σ st s→av cx.P fe m env I σ st.length s.heap→
  Good cx.S cx.pre (ev.e k fe m st x) (EV cx I σ st s Q)→wpAny cx.M A (eval x env) Q E s
 t:∀{k A I σ st s E fe m env x} {Q:Bool→SP},au cx k A I σ st s→av cx.P fe m env I σ st.length s.heap→
  Good cx.S cx.pre (ev.t k fe m st x) (EB cx I σ st s Q)→wpAny cx.M A (isTrue x env (eval x env)) Q E s
 b:∀{k A I σ st s E fe m env x} {Q:Flow→SP},au cx k A I σ st s→av cx.P fe m env I σ st.length s.heap→
  Good cx.S cx.pre (ev.b k fe m st x) (EO cx fe env I σ st s Q)→wpAny cx.M A (execs x env) Q E s
 c:∀{k A I σ st s E f args y ys} {Q:dS},au cx k A I σ st s→aq I cx.P σ st.length f y→aG I cx.P σ st.length args ys→
  Good cx.S cx.pre (ev.c k f args st) (EV cx I σ st s Q)→wpAny cx.M A (call y ys) Q E s
section
variable{st:St}
theorem aU.ee{x:Expr}{α:Type}{f:V×St→aA α}{R:α→Prop}{Q:dS}(S:aU cx ev)(H:au cx k A I σ st s)(l:av cx.P fe m env I σ st.length s.heap)
  (g:Good cx.S cx.pre ((ev.e k fe m st x).bind f) R)
  (h:∀I' af st' s' v y,aM cx.P (fun _=>False) I σ st.length s.heap I' af st' s'.heap→bw s s'→au cx k A I' af st' s'→av cx.P fe m env I' af st'.length s'.heap→aq I' cx.P af st'.length v y→
   Good cx.S cx.pre (f (v,st')) R→Q y s'):wpAny cx.M A (eval x env) Q E s:=
 S.e H l (Good.mono (fun p gp I' af y s' x sm r=>h I' af p.2 s' p.1 y x sm (H.go x) (l.ext x) r gp) (Good.bind g))
theorem aU.tt{x:Expr}{α:Type}{f:Bool×St→aA α}{R:α→Prop}{Q:Bool→SP}(S:aU cx ev)(H:au cx k A I σ st s)(l:av cx.P fe m env I σ st.length s.heap)
  (g:Good cx.S cx.pre ((ev.t k fe m st x).bind f) R)
  (h:∀I' af st' s' b,aM cx.P (fun _=>False) I σ st.length s.heap I' af st' s'.heap→bw s s'→au cx k A I' af st' s'→av cx.P fe m env I' af st'.length s'.heap→
   Good cx.S cx.pre (f (b,st')) R→Q b s'):wpAny cx.M A (isTrue x env (eval x env)) Q E s:=
 S.t H l (Good.mono (fun p gp I' af y s' x sm r=>h I' af p.2 s' y x sm (H.go x) (l.ext x) (r▸gp)) (Good.bind g))
noncomputable def uq(e:Expr):Bool:=match e with
 |.Starred _ _=>false
 |_=>true
theorem eX{e:Expr}(rest:List Expr)(env:Env)(h:uq e=true):starEach (e::rest) env=(false,eval e env)::starEach rest env:=by
 induction e using PySem.Expr.casesOn<;>first|rfl|exact ft h
noncomputable def wC(ev:Ev)(k:Nat)(fe:FE)(m:ai):List Expr→St→aA (List V×St)
 |[],st=>.ok ([],st)
 |e::r,st=>dQ (uq e) ((ev.e k fe m st e).bind fun p=>(wC ev k fe m r p.2).bind fun q=>.ok (p.1::q.1,q.2))
theorem Dy{pos:Pos}(S:aU cx ev){es:List Expr}:∀{I:IM} {σ:Nat→Addr} {st:St} {s:Shared} {α:Type} {f:List V×St→aA α} {R:α→Prop} {Q:List Value→Shared→Prop},au cx k A I σ st s→av cx.P fe m env I σ st.length s.heap→
  Good cx.S cx.pre ((wC ev k fe m es st).bind f) R→
  (∀I' af st' s' vs ys,aM cx.P (fun _=>False) I σ st.length s.heap I' af st' s'.heap→bw s s'→au cx k A I' af st' s'→av cx.P fe m env I' af st'.length s'.heap→aG I' cx.P af st'.length vs ys→
   Good cx.S cx.pre (f (vs,st')) R→Q ys s')→wpAny cx.M A (spliced (backTo pos (starEach es env))) Q E s:=by
 induction es with
 |nil=>exact fun H l g h=>spliced_nil (h _ _ _ _ [] [] (aM.refl H.rel) (bw.refl _) H l .nil g)
 |cons e es ih=>
  intro I σ st s α f R Q H l g h;obtain⟨hp,g⟩:=bA (Good.bind g);exact args_cons (S.ee H l g fun bG aZ aX s₁ v y aV aO aY bD b9 aQ=>ih aY bD aQ fun dj bH bW br vs ys bQ cJ cO dX jQ fL=>
   h dj bH bW br (v::vs) (y::ys) (aV.trans bQ) (aO.trans cJ) cO dX (.cons (b9.mono bQ.le) jQ) fL) (eX es env hp)
theorem EV.into(e:EV cx I σ st s Q p)(x:aM cx.P (fun _=>False) I σ st.length s.heap I' af st' s'.heap)(sm:bw s s'):
  EV cx I' af st' s' Q p:=Ends.into e x sm
end
noncomputable def L3(c:Const):Option V:=match c with
 |.none=>some .none
 |.bool b=>some (.bool b)
 |.int i=>some (.int i)
 |.str s=>some (.str s)
 |_=>none
noncomputable def L4(cx:Cx)(fe:FE)(m:ai)(st:St)(x:Str):aA (V×St):=dQ (i8 (seq x "__debug__")) (lu st (Bv cx fe m x))
noncomputable def ur(e:Expr):Bool:=match e with
 |.Call _ _ _ _=>false
 |_=>true
noncomputable def L5(cx:Cx)(ev:Ev)(k:Nat)(fe:FE)(m:ai)(st:St)(v:Expr)(a:Str):aA (V×St):=dQ (ur v) ((ev.e k fe m st v).bind fun p=>lu p.2 (zh cx p.2 p.1 a))
noncomputable def uY(ev:Ev)(k:Nat)(fe:FE)(m:ai)(st:St)(v i:Expr):aA (V×St):=
 (ev.e k fe m st v).bind fun p=>(ev.e k fe m p.2 i).bind fun q=>(D5 q.2 p.1 q.1).bind fun u=>.ok (u,q.2)
noncomputable def aaW:Int→Option Nat:=fun i=>match i with
 |.ofNat n=>some n
 |.negSucc _=>none
noncomputable def aaX:Const→Option Nat:=fun c=>match c with
 |.int i=>aaW i
 |_=>none
noncomputable def aaY:Expr→Option Nat:=fun e=>match e with
 |.Constant c _ _=>aaX c
 |_=>none
noncomputable def IX(e:Option Expr):Option (Option Nat):=match e with
 |none=>some none
 |some e=>cC (aaY e) fun n=>some (some n)
noncomputable def cut(lo hi:Option Nat)(vs:List V):Option (List V):=match lo with
 |none=>cC hi fun n=>some (vs.take n)
 |some n=>match hi with
  |none=>some (vs.drop n)
  |some _=>none
noncomputable def TL(e:Option Expr):Bool:=match e with
 |none=>true
 |some _=>false
noncomputable def Hi(ev:Ev)(k:Nat)(fe:FE)(m:ai)(st:St)(v:Expr)(lo hi step:Option Expr):aA (V×St):=dQ (TL step) (cy (IX lo) fun l=>cy (IX hi) fun u=>
 (ev.e k fe m st v).bind fun p=>cy (pC p.2 p.1) fun vs=>cy (cut l u vs) fun ws=>.need (vs.length<1000) (.ok (.lst ws,p.2)))
noncomputable def zv(ev:Ev)(k:Nat)(fe:FE)(m:ai)(st:St)(v i:Expr):aA (V×St):=match i with
 |.Slice lo hi step _=>Hi ev k fe m st v lo hi step
 |.Name a b=>uY ev k fe m st v (.Name a b)
 |.Constant a b c=>uY ev k fe m st v (.Constant a b c)
 |.BinOp a b c d=>uY ev k fe m st v (.BinOp a b c d)
 |.Attribute a b c=>uY ev k fe m st v (.Attribute a b c)
 |.Subscript a b c=>uY ev k fe m st v (.Subscript a b c)
 |.UnaryOp a b c=>uY ev k fe m st v (.UnaryOp a b c)
 |_=>.bad
noncomputable def RK(ev:Ev)(k:Nat)(fe:FE)(m:ai)(st:St)(op:Operator)(l r:Expr):aA (V×St):=
 (ev.e k fe m st l).bind fun p=>(ev.e k fe m p.2 r).bind fun q=>(Pd q.2 op p.1 q.1).bind fun v=>.ok (v,q.2)
noncomputable def Ah(ev:Ev)(k:Nat)(fe:FE)(m:ai)(st:St)(l:Expr)(op:CmpOp)(r:Expr):aA (V×St):=match behindInMarks op r with
 |true=>.bad
 |false=>(ev.e k fe m st l).bind fun p=>(ev.e k fe m p.2 r).bind fun q=>lu q.2 (Pc q.2 op p.1 q.1)
noncomputable def RL(ev:Ev)(k:Nat)(fe:FE)(m:ai)(st:St)(x:Expr):aA (V×St):=
 (ev.e k fe m st x).bind fun p=>cy (z5 p.1) fun b=>.ok (.bool (i8 b),p.2)
noncomputable def V2:Int→Int:=fun i=>match i with
 |.ofNat n=>match n with
  |0=>.ofNat 0
  |n+1=>.negSucc n
 |.negSucc n=>.ofNat (n+1)
theorem TM(i:Int): -i=V2 i:=by
 induction i using qJ with
 |ofNat n=>induction n using qk<;>rfl
 |negSucc n=>rfl
noncomputable def RM(ev:Ev)(k:Nat)(fe:FE)(m:ai)(st:St)(x:Expr):aA (V×St):=
 (ev.e k fe m st x).bind fun p=>cy (Eh p.1) fun i=>.ok (.int (V2 i),p.2)
noncomputable def RN(ev:Ev)(k:Nat)(fe:FE)(m:ai)(st:St)(t a b:Expr):aA (V×St):=
 (ev.t k fe m st t).bind fun p=>match p.1 with
  |true=>ev.e k fe m p.2 a
  |false=>ev.e k fe m p.2 b
noncomputable def RO(ev:Ev)(k:Nat)(fe:FE)(m:ai)(st:St)(es:List Expr):aA (V×St):=
 (wC ev k fe m es st).bind fun p=>dQ (Nat.blt (len p.1) 500) (.ok (.tup p.1,p.2))
noncomputable def L6(ev:Ev)(k:Nat)(fe:FE)(m:ai)(st:St)(es:List Expr):aA (V×St):=
 (wC ev k fe m es st).bind fun p=>dQ (Nat.blt (len p.1) 500) (.ok (.loc p.2.length,p.2++[.list [] p.1]))
noncomputable def RP(ev:Ev)(k:Nat)(fe:FE)(m:ai)(st:St)(x y:Expr):aA (V×St):=
 (ev.e k fe m st x).bind fun p=>cy (z5 p.1) fun b=>match b with
  |true=>ev.e k fe m p.2 y
  |false=>.ok p
noncomputable def V3(ev:Ev)(k:Nat)(fe:FE)(m:ai)(st:St)(x y:Expr):aA (V×St):=
 (ev.e k fe m st x).bind fun p=>cy (z5 p.1) fun b=>match b with
  |true=>.ok p
  |false=>ev.e k fe m p.2 y
noncomputable def Hj(st:St):aA (V×St):=.ok (.loc st.length,st++[.dict []])
section
variable{cx:Cx}{st:St}
theorem kj{α β:Type}{o:Option α}{S:Spec}{pre:Nat→Addr→List V→St→Prop}{R:α×St→Prop}(g:Good S pre (lu st o) R):∃a,o=some a∧R (a,st):=by
 induction o using qe with
 |none=>exact g.elim
 |some a=>exact⟨a,rfl,g⟩
theorem Ph{c:Const}{kk:Nat}{pos:Pos}(H:au cx k A I σ st s)(g:Good cx.S cx.pre (lu st (L3 c)) (EV cx I σ st s Q)):wpAny cx.M A (eval (.Constant c kk pos) env) Q E s:=by
 obtain⟨v,e,g⟩:=kj (β:=V) g;induction c using PySem.Const.casesOn with
 |none=>cases qc e;exact wpAny_Constant_none (EV.tok g H .none s.toks)
 |bool=>cases qc e;exact wpAny_Constant_bool (EV.tok g H (.bool _) s.toks)
 |int=>cases qc e;exact wpAny_Constant_int (EV.tok g H (.int _ _) _)
 |str=>cases qc e;exact PySem.wpAny_Constant_str (EV.tok g H (.str _ _) _)
 |_=>exact nn e
theorem TN{x:Str}{pos:Pos}(H:au cx k A I σ st s)(l:av cx.P fe m env I σ st.length s.heap)(g:Good cx.S cx.pre (L4 cx fe m st x) (EV cx I σ st s Q)):wpAny cx.M A (eval (.Name x pos) env) Q E s:=by
 obtain⟨hx,g⟩:=bA g;obtain⟨v,e,g⟩:=kj (β:=V) g;refine wpAny_Name (Lv H l e fun y r=>EV.tok g H r s.toks) (beq_eq_false_iff_ne.mpr (iE.mp ?_));induction q:seq x "__debug__"using qd with
 |false=>rfl
 |true=>rw[q]at hx;exact ft hx
theorem p8{v:Expr}{a:Str}{w:Sem Value}(h:ur v=true):attributeBase v a env w=w:=by
 induction v using PySem.Expr.casesOn with
 |Call=>exact ft h
 |_=>rfl
theorem TP{v:Expr}{a:Str}{pos:Pos}(S:aU cx ev)(H:au cx k A I σ st s)(l:av cx.P fe m env I σ st.length s.heap)(g:Good cx.S cx.pre (L5 cx ev k fe m st v a) (EV cx I σ st s Q)):
  wpAny cx.M A (eval (.Attribute v a pos) env) Q E s:=by
 obtain⟨hv,g⟩:=bA g;rw[arm_eval_Attribute,p8 hv];refine wpAny_bind (S.ee H l g fun I' af st' s' v y x sm H' l' r g'=>wpAny_bind (wpAny_standAt ?_));obtain⟨u,e,g'⟩:=kj (β:=V) g';refine wpAny_bind (wpAny_holding (D0 H' r e fun z rz=> ?_));exact wpAny_bind (wpAny_letTemporaryGo (wpAny_pure (EV.tok (EV.into g' x sm) H' rz _)))
theorem uu(S:aU cx ev)(H:au cx k A I σ st s)(l:av cx.P fe m env I σ st.length s.heap)(g:Good cx.S cx.pre (uY ev k fe m st v i) (EV cx I σ st s Q)):
  wpAny cx.M A (eval (.Subscript v i pos) env) Q E s:=by
 refine Subscript_ (S.ee H l g fun bG aZ aX s₁ jk iY aV aO aY bD b9 aQ=>S.ee aY bD aQ fun dj bH bW br En Eo bQ cJ cO dX jQ fL=> ?_);exact O7 cO (b9.mono bQ.le) jQ (Good.bind fL) fun u z t g' rz=>EV.tok (EV.into g' (aV.trans bQ) (aO.trans cJ)) cO rz t
theorem Hl{o:Option Nat}{I:IM}{σ:Nat→Addr}{st:St}{s:Shared}{Q:dS}(h:IX e=some o)
  (hQ:∀y t,IsPart y (o.map Int.ofNat)→Q y {s with toks:=t}):wpAny cx.M A (evalPart e env) Q E s:=by
 induction e using qe with
 |none=>cases qc h;exact wpAny_pure (hQ _ s.toks .none)
 |some e=>
  refine aK h fun n q h=> ?_;cases qc h
  induction e using PySem.Expr.casesOn with
  |Constant c=>induction c using PySem.Const.casesOn with
   |int i=>induction i using qJ with
    |ofNat j=>cases qc q;rw[evalPart_some];exact wpAny_Constant_int (hQ _ _ (.int _ _))
    |negSucc=>exact nn q
   |_=>exact nn q
  |_=>exact nn q
theorem aG.take{P:Params}{n:Nat}{vs:List V}:∀(j:Nat) {xs:LV},aG I P σ n vs xs→aG I P σ n (vs.take j) (xs.take j):=by
 induction vs with
 |nil=>intro j xs h;replace h:=h.inv;subst h;rw[List.take_nil,List.take_nil];exact .nil
 |cons a vs ih=>
  intro j xs h;replace h:=h.inv;induction h using dP.casesOn with
  |mk h r=>induction j using qk with
   |zero=>exact .nil
   |succ j=>exact .cons h (ih j r)
theorem aG.Zd{P:Params}{n:Nat}{vs:List V}:∀(j:Nat) {xs:LV},aG I P σ n vs xs→aG I P σ n (vs.drop j) (xs.drop j):=by
 induction vs with
 |nil=>intro j xs h;replace h:=h.inv;subst h;rw[List.drop_nil,List.drop_nil];exact .nil
 |cons a vs ih=>
  intro j xs h;replace h:=h.inv;induction h using dP.casesOn with
  |mk h r=>induction j using qk with
   |zero=>exact .cons h r
   |succ j=>exact ih j r
theorem V4{P:Params}{lo hi:Option Nat}{vs ws:List V}{xs:LV}(e:cut lo hi vs=some ws)(ra:aG I P (fun _=>0) 0 vs xs):∃zs,slicePick xs.toArray (lo.map Int.ofNat) (hi.map Int.ofNat) none=zs.toArray∧aG I P (fun _=>0) 0 ws zs:=by
 induction lo using qe with
 |none=>exact aK e fun n q e=>⟨_,q▸slicePick_upto' _ _,qc e▸ra.take _⟩
 |some n=>induction hi using qe with
  |none=>exact⟨_,slicePick_from' _ _,qc e▸ra.Zd _⟩
  |some=>exact nn e
theorem Pj{v:Expr}{lo hi step:Option Expr}{V5 pos:Pos}(S:aU cx ev)(H:au cx k A I σ st s)(l:av cx.P fe m env I σ st.length s.heap)(g:Good cx.S cx.pre (Hi ev k fe m st v lo hi step) (EV cx I σ st s Q)):
  wpAny cx.M A (eval (.Subscript v (.Slice lo hi step V5) pos) env) Q E s:=by
 obtain⟨yH,g⟩:=bA g;induction step using qe with
 |some=>exact ft yH
 |none=>
 refine aN g fun lo' hlo g=>aN g fun hi' hhi g=> ?_;refine Subscript_ (S.ee H l g fun bG aZ aX s₁ jk iY aV aO aY bD b9 aQ=>wpAny_Slice (Hl (I:=bG) (σ:=aZ) (st:=aX) hlo fun yl tl pl=>Hl (I:=bG) (σ:=aZ) (st:=aX) hhi fun yu tu pu=> ?_));rw[evalPart_none];refine wpAny_pure (aN aQ fun vs L7 aQ=>aN aQ fun ws hws aQ=> ?_);have hl:vs.length<1000:=aQ.1;obtain⟨a,xs,n,rfl,ga,ra⟩:=Aa aY.rel b9 L7;have e1:=ra.length;have il:s₁.heap.IsList a xs.toArray:=⟨_,ga,rfl,n,rfl⟩;have bQ:=aM.Rr aY.rel {cls:=.type "slice",data:=.fields #[yl,yu,.none]};have cO:au cx k A bG aZ aX {s₁ with heap:=s₁.heap.push {cls:=.type "slice",data:=.fields #[yl,yu,.none]},toks:=tu}:=⟨aY.fit,aY.base,bQ.rel⟩;obtain⟨nK,pR⟩:=g9 (.Slice lo hi none V5) (.ref a) (.ref s₁.heap.objs.size);obtain⟨zs,hzs,rz⟩:=V4 hws ra;refine tail_any (Heap.IsList.typeIs (s:={s₁ with heap:=s₁.heap.push {cls:=.type "slice",data:=.fields #[yl,yu,.none]}}) (il.push _)) list_getitem_lookup
  (wpAny_getItem_list_slice (il.push _) (Heap.IsSliceOf.new ..) pl pu .none (by trivial) ?_ (by rw[List.size_toArray,sizeLine_eq];lia)) pR
 rw[hzs];exact uW cO rz (EV.into (s':={s₁ with heap:=s₁.heap.push {cls:=.type "slice",data:=.fields #[yl,yu,.none]},toks:=tu}) aQ.2 (aV.trans bQ) ⟨aO.1,aO.2.1,aO.2.2⟩)
theorem CB{v i:Expr}(S:aU cx ev)(H:au cx k A I σ st s)(l:av cx.P fe m env I σ st.length s.heap)(g:Good cx.S cx.pre (zv ev k fe m st v i) (EV cx I σ st s Q)):
  wpAny cx.M A (eval (.Subscript v i pos) env) Q E s:=by
 induction i using PySem.Expr.casesOn with
 |Slice=>exact Pj S H l g
 |Name=>exact uu S H l g
 |Constant=>exact uu S H l g
 |BinOp=>exact uu S H l g
 |Attribute=>exact uu S H l g
 |Subscript=>exact uu S H l g
 |UnaryOp=>exact uu S H l g
 |_=>exact g.elim
theorem Pk{op:Operator}{a b:Expr}{pos:Pos}(S:aU cx ev)(H:au cx k A I σ st s)(l:av cx.P fe m env I σ st.length s.heap)(g:Good cx.S cx.pre (RK ev k fe m st op a b) (EV cx I σ st s Q)):
  wpAny cx.M A (eval (.BinOp a op b pos) env) Q E s:=by
 refine wpAny_BinOp (S.ee H l g fun bG aZ aX s₁ jk iY aV aO aY bD b9 aQ=>S.ee aY bD aQ fun dj bH bW br En Eo bQ cJ cO dX jQ fL=> ?_);exact VW cO (b9.mono bQ.le) jQ (Good.mono (fun v gv=>EV.into gv (aV.trans bQ) (aO.trans cJ)) (Good.bind fL))
theorem TQ{op:CmpOp}{a b:Expr}{pos:Pos}(S:aU cx ev)(H:au cx k A I σ st s)(l:av cx.P fe m env I σ st.length s.heap)(g:Good cx.S cx.pre (Ah ev k fe m st a op b) (EV cx I σ st s Q)):
  wpAny cx.M A (eval (.Compare a [op] [b] pos) env) Q E s:=by
 unfold Ah at g
 split at g
 ·exact g.elim
 ·rename_i hm
  refine wpAny_Compare1 (S.ee H l g fun bG aZ aX s₁ jk iY aV aO aY bD b9 aQ=>S.ee aY bD aQ fun dj bH bW br En Eo bQ cJ cO dX jQ fL=> ?_) hm;obtain⟨u,e,g'⟩:=kj (β:=V) fL;exact Ec cO (b9.mono bQ.le) jQ e fun z t rz=>EV.tok (EV.into g' (aV.trans bQ) (aO.trans cJ)) cO rz t
noncomputable def Ep(ev:Ev)(k:Nat)(fe:FE)(m:ai)(st:St)(l:Expr)(op:CmpOp)(r:Expr):aA (Bool×St):=
 (Ah ev k fe m st l op r).bind fun p=>IT p.2 p.1
theorem TR{op:CmpOp}{a b:Expr}{pos:Pos}{w:Sem Value}{Q:Bool→SP}(S:aU cx ev)(H:au cx k A I σ st s)(l:av cx.P fe m env I σ st.length s.heap)(g:Good cx.S cx.pre (Ep ev k fe m st a op b) (EB cx I σ st s Q)):
  wpAny cx.M A (isTrue (.Compare a [op] [b] pos) env w) Q E s:=by
 unfold Ep Ah at g
 split at g
 ·exact g.elim
 ·rename_i hm
  rw[aA.bind_assoc]at g;refine wpAny_isTrue_Compare1 (S.ee H l g fun bG aZ aX s₁ jk iY aV aO aY bD b9 aQ=> ?_) hm;rw[aA.bind_assoc]at aQ;refine S.ee aY bD aQ fun dj bH bW br En Eo bQ cJ cO dX jQ fL=> ?_;obtain⟨u,e,g'⟩:=kj (β:=V) (Good.bind fL);refine Ec cO (b9.mono bQ.le) jQ e fun z t rz=> ?_;exact G9 (s:={br with toks:=t}) rz g' fun b gb=>gb dj bH _ {br with toks:=t} (aV.trans bQ) (aO.trans cJ) rfl
theorem V6(S:aU cx ev)(H:au cx k A I σ st s)(l:av cx.P fe m env I σ st.length s.heap)(g:Good cx.S cx.pre (RL ev k fe m st x) (EV cx I σ st s Q)):
  wpAny cx.M A (eval (.UnaryOp .Not x pos) env) Q E s:=by
 refine wpAny_UnaryOp (S.ee H l g fun bG aZ aX s₁ jk iY aV aO aY bD b9 aQ=> ?_);exact aN aQ fun b hb aQ=>not_value (zu b9 hb (by rw[wu];exact EV.tok (EV.into aQ aV aO) aY (.bool _) s₁.toks))
theorem V7(S:aU cx ev)(H:au cx k A I σ st s)(l:av cx.P fe m env I σ st.length s.heap)(g:Good cx.S cx.pre (RM ev k fe m st x) (EV cx I σ st s Q)):
  wpAny cx.M A (eval (.UnaryOp .USub x pos) env) Q E s:=by
 refine wpAny_UnaryOp (S.ee H l g fun bG aZ aX s₁ jk iY aV aO aY bD b9 aQ=> ?_);exact aN aQ fun i hi aQ=>match z9 b9 hi with
  |.mk _=>P.neg_int (by rw[TM];exact EV.tok (EV.into aQ aV aO) aY (.int _ _) _)
theorem V8(S:aU cx ev)(H:au cx k A I σ st s)(l:av cx.P fe m env I σ st.length s.heap)(g:Good cx.S cx.pre (RN ev k fe m st t a b) (EV cx I σ st s Q)):
  wpAny cx.M A (eval (.IfExp t a b pos) env) Q E s:=by
 refine wpAny_IfExp (S.tt H l g fun bG aZ aX s₁ c aV aO aY bD aQ=> ?_);induction c using qd with
 |true=>exact S.e aY bD (Good.mono (fun v gv=>EV.into gv aV aO) aQ)
 |false=>exact S.e aY bD (Good.mono (fun v gv=>EV.into gv aV aO) aQ)
theorem V9(S:aU cx ev)(H:au cx k A I σ st s)(l:av cx.P fe m env I σ st.length s.heap)(g:Good cx.S cx.pre (RO ev k fe m st es) (EV cx I σ st s Q)):
  wpAny cx.M A (eval (.Tuple es kk pos) env) Q E s:=by
 refine wpAny_Tuple_spliced (Dy S H l g fun bG aZ aX s₁ vs ys aV aO aY bD b9 aQ=> ?_);have fL:=bA aQ;have l1:=lP fL.1;have e1:=b9.length;exact⟨by rw[sizeLine_eq];lia,LZ aY b9 (EV.into fL.2 aV aO)⟩
theorem TS(S:aU cx ev)(H:au cx k A I σ st s)(l:av cx.P fe m env I σ st.length s.heap)(g:Good cx.S cx.pre (L6 ev k fe m st es) (EV cx I σ st s Q)):
  wpAny cx.M A (eval (.List es pos) env) Q E s:=by
 refine wpAny_List_spliced (Dy S H l g fun bG aZ aX s₁ vs ys aV aO aY bD b9 aQ=> ?_);have fL:=bA aQ;have l1:=lP fL.1;have e1:=b9.length;exact⟨by rw[sizeLine_eq];lia,Pe aY b9 (EV.into fL.2 aV aO)⟩
theorem Wa(S:aU cx ev)(H:au cx k A I σ st s)(l:av cx.P fe m env I σ st.length s.heap)(g:Good cx.S cx.pre (RP ev k fe m st x y) (EV cx I σ st s Q)):
  wpAny cx.M A (eval (.BoolOp .And [x,y] pos) env) Q E s:=by
 refine wpAny_And2 (S.ee H l g fun bG aZ aX s₁ jk iY aV aO aY bD b9 aQ=> ?_);refine aN aQ fun b hb aQ=>zu b9 hb ?_;induction b using qd with
 |true=>exact S.e aY bD (Good.mono (fun v gv=>EV.into gv aV aO) aQ)
 |false=>exact EV.tok (EV.into aQ aV aO) aY b9 s₁.toks
theorem Ze(S:aU cx ev)(H:au cx k A I σ st s)(l:av cx.P fe m env I σ st.length s.heap)(g:Good cx.S cx.pre (V3 ev k fe m st x y) (EV cx I σ st s Q)):
  wpAny cx.M A (eval (.BoolOp .Or [x,y] pos) env) Q E s:=by
 refine wpAny_Or2 (S.ee H l g fun bG aZ aX s₁ jk iY aV aO aY bD b9 aQ=> ?_);refine aN aQ fun b hb aQ=>zu b9 hb ?_;induction b using qd with
 |false=>exact S.e aY bD (Good.mono (fun v gv=>EV.into gv aV aO) aQ)
 |true=>exact EV.tok (EV.into aQ aV aO) aY b9 s₁.toks
noncomputable def IY(ev:Ev)(k:Nat)(fe:FE)(m:ai):List Expr→St→aA (Bool×St)
 |[],st=>.ok (true,st)
 |e::r,st=>(ev.t k fe m st e).bind fun p=>match p.1 with
  |true=>IY ev k fe m r p.2
  |false=>.ok (false,p.2)
noncomputable def IZ(ev:Ev)(k:Nat)(fe:FE)(m:ai):List Expr→St→aA (Bool×St)
 |[],st=>.ok (false,st)
 |e::r,st=>(ev.t k fe m st e).bind fun p=>match p.1 with
  |true=>.ok (true,p.2)
  |false=>IZ ev k fe m r p.2
theorem L8(S:aU cx ev):∀{es:List Expr} {I:IM} {σ:Nat→Addr} {st:St} {s:Shared} {Q:Bool→SP},au cx k A I σ st s→av cx.P fe m env I σ st.length s.heap→
  Good cx.S cx.pre (IY ev k fe m es st) (EB cx I σ st s Q)→wpAny cx.M A (allTrue .And es env) Q E s
 |[],I,σ,st,s,Q,H,l,g=>wpAny_allTrue_And_nil (g I σ true s (aM.refl H.rel) (bw.refl s) rfl)
 |e::es,I,σ,st,s,Q,H,l,g=>by
  refine wpAny_allTrue_And_cons (S.tt H l g fun bG aZ aX s₁ c aV aO aY bD aQ=> ?_);induction c using qd with
  |true=>exact L8 S aY bD (Good.mono (fun v gv=>Ends.into gv aV aO) aQ)
  |false=>exact aQ bG aZ false s₁ aV aO rfl
theorem Ma(S:aU cx ev):∀{es:List Expr} {I:IM} {σ:Nat→Addr} {st:St} {s:Shared} {Q:Bool→SP},au cx k A I σ st s→av cx.P fe m env I σ st.length s.heap→
  Good cx.S cx.pre (IZ ev k fe m es st) (EB cx I σ st s Q)→wpAny cx.M A (allTrue .Or es env) Q E s
 |[],I,σ,st,s,Q,H,l,g=>wpAny_allTrue_Or_nil (g I σ false s (aM.refl H.rel) (bw.refl s) rfl)
 |e::es,I,σ,st,s,Q,H,l,g=>by
  refine wpAny_allTrue_Or_cons (S.tt H l g fun bG aZ aX s₁ c aV aO aY bD aQ=> ?_);induction c using qd with
  |false=>exact Ma S aY bD (Good.mono (fun v gv=>Ends.into gv aV aO) aQ)
  |true=>exact aQ bG aZ true s₁ aV aO rfl
noncomputable def Mb(ev:Ev)(k:Nat)(fe:FE)(m:ai)(st:St)(x:Expr):aA (Bool×St):=
 (ev.t k fe m st x).bind fun p=>.ok (i8 p.1,p.2)
theorem TU{w:Sem Value}{Q:Bool→SP}(S:aU cx ev)(H:au cx k A I σ st s)(l:av cx.P fe m env I σ st.length s.heap)(g:Good cx.S cx.pre (Mb ev k fe m st x) (EB cx I σ st s Q)):
  wpAny cx.M A (isTrue (.UnaryOp .Not x pos) env w) Q E s:=by
 refine wpAny_isTrue_Not (S.tt H l g fun bG aZ aX s₁ c aV aO aY bD aQ=> ?_);rw[wu];exact aQ bG aZ _ s₁ aV aO rfl
noncomputable def wD(ev:Ev)(k:Nat)(fe:FE)(m:ai)(st:St)(x:Expr):aA (Bool×St):=
 (ev.e k fe m st x).bind fun p=>IT p.2 p.1
theorem xR{Q:Bool→SP}(he:∀w,isTrue x env w=(do let v ←w;standAt x.pos;holding [v] (truthy v)))(S:aU cx ev)(H:au cx k A I σ st s)(l:av cx.P fe m env I σ st.length s.heap)
  (g:Good cx.S cx.pre (wD ev k fe m st x) (EB cx I σ st s Q)):wpAny cx.M A (isTrue x env (eval x env)) Q E s:=by
 refine wpAny_isTrue_value (S.ee H l g fun bG aZ aX s₁ jk iY aV aO aY bD b9 aQ=> ?_) (he _);exact G9 b9 aQ fun b gb=>gb bG aZ _ s₁ aV aO rfl
noncomputable def stepT(ev:Ev)(k:Nat)(fe:FE)(m:ai)(st:St)(x:Expr):aA (Bool×St):=match x with
 |.UnaryOp op x _=>match op with
  |.Not=>Mb ev k fe m st x
  |_=>.bad
 |.BoolOp op xs _=>match op with
  |.And=>IY ev k fe m xs st
  |.Or=>IZ ev k fe m xs st
 |.Compare l nK rs _=>match nK with
  |[op]=>match rs with
   |[r]=>Ep ev k fe m st l op r
   |_=>.bad
  |_=>.bad
 |.IfExp _ _ _ _=>.bad
 |.Name a b=>wD ev k fe m st (.Name a b)
 |.Attribute a b c=>wD ev k fe m st (.Attribute a b c)
 |.Subscript a b c=>wD ev k fe m st (.Subscript a b c)
 |.Call a b c d=>wD ev k fe m st (.Call a b c d)
 |_=>.bad
theorem Pn{Q:Bool→SP}(S:aU cx ev)(H:au cx k A I σ st s)(l:av cx.P fe m env I σ st.length s.heap)(g:Good cx.S cx.pre (stepT ev k fe m st x) (EB cx I σ st s Q)):
  wpAny cx.M A (isTrue x env (eval x env)) Q E s:=by
 induction x using PySem.Expr.casesOn with
 |UnaryOp op=>induction op using PySem.UnaryOp.casesOn with
  |Not=>exact TU S H l g
  |_=>exact g.elim
 |BoolOp op=>induction op using PySem.BoolOp.casesOn with
  |And=>exact wpAny_isTrue_BoolOp (L8 S H l g)
  |Or=>exact wpAny_isTrue_BoolOp (Ma S H l g)
 |Compare e nK rs=>induction nK using qh with
  |nil=>exact g.elim
  |cons op nK=>induction nK using qh with
   |cons=>exact g.elim
   |nil=>induction rs using qh with
    |nil=>exact g.elim
    |cons r rs=>induction rs using qh with
     |nil=>exact TR S H l g
     |cons=>exact g.elim
 |Name=>exact xR (fun _=>rfl) S H l g
 |Attribute=>exact xR (fun _=>rfl) S H l g
 |Subscript=>exact xR (fun _=>rfl) S H l g
 |Call=>exact xR (fun _=>rfl) S H l g
 |_=>exact g.elim
end
noncomputable def I8{α β:Type}(o:Option α)(x:Option β):Option β:=match o with
 |none=>x
 |some _=>none
theorem CC{α β:Type}{o:Option α}{x:Option β}{r:β}(h:I8 o x=some r):o=none∧x=some r:=by
 induction o using qe with
 |none=>exact⟨rfl,h⟩
 |some=>exact nn h
noncomputable def xS(p:Arguments):Option (List Arg):=fH (eB p.1) (I8 p.3 (fH (eB p.4) (I8 p.6 (some p.2))))
theorem I9{p:Arguments}{args:List Arg}(hp:xS p=some args):p=⟨[],args,none,[],p.5,none,p.7⟩:=by
 obtain⟨po,as,va,ko,kd,kw,dd⟩:=p;obtain⟨e2,e3⟩:=CC (cW hp);obtain⟨e5,e6⟩:=CC (cW e3);obtain rfl:=cH (cP hp);obtain rfl:=cH (cP e3);obtain rfl:=qc e6;cases e2
 cases e5
 rfl
noncomputable def jl(slots:List (Str×Value))(p:Str×Value):List (Str×Value):=if(slots.lookup p.1).isNone then slots++[p]else slots
theorem Ja{α β:Type}(f:α→β→Sem (ForInStep β))(g:β→α→β)(h:∀x c,f x c=pure (.yield (g c x)))(l:List α):∀c,forIn l c f=pure (l.foldl g c):=by
 induction l with
 |nil=>exact fun c=>rfl
 |cons x l ih=>intro c;rw[List.forIn_cons,h,pure_bind];exact ih _
theorem uv{α:Type}{l:List (Str×α)}{x:Str}(h:x∉l.map (·.1)):l.lookup x=none:=by
 induction l with
 |nil=>rfl
 |cons p l ih=>
  rw[List.map_cons,List.mem_cons,not_or]at h;rw[List.lookup_cons,beq_eq_false_iff_ne.mpr h.1];exact ih h.2
theorem Ai{x:Str}{ns:List Str}:∀{vs:LV},ns.length≤vs.length→x∈ns→∃v,(ns.zip vs).lookup x=some v:=by
 induction ns with
 |nil=>exact fun _ h=>absurd h qN
 |cons n ns ih=>
  intro vs hl hx;induction vs using qh with
  |nil=>exact absurd hl (Nat.not_succ_le_zero _)
  |cons v vs=>
   rw[List.zip_cons_cons,List.lookup_cons];induction q:x==n using qd with
   |true=>exact⟨v,rfl⟩
   |false=>exact ih (Nat.le_of_succ_le_succ hl) ((List.mem_cons.mp hx).resolve_left (beq_eq_false_iff_ne.mp q))
theorem Jb(L:List (Str×Value))(S:List (Str×Value))(h:∀p∈L,∃v,S.lookup p.1=some v):L.foldl jl S=S:=by
 induction L with
 |nil=>rfl
 |cons p L ih=>
  obtain⟨v,hv⟩:=h p qi;have:jl S p=S:=by rw[jl,hv];rfl
  rw[List.foldl_cons,this];exact ih fun q hq=>h q (qj _ hq)
theorem Po(L:List (Str×Value)):∀(S:List (Str×Value)),((S++L).map (·.1)).Nodup→L.foldl jl S=S++L:=by
 induction L with
 |nil=>exact fun S _=>(List.append_nil S).symm
 |cons p L ih=>
  intro S h;have:jl S p=S++[p]:=by
   rw[jl,uv fun hm=> ?_]
   ·rfl
   ·rw[List.map_append,List.map_cons]at h;exact(List.nodup_append.mp h).2.2 _ hm _ qi rfl
  rw[List.foldl_cons,this,List.append_cons S p L];exact ih _ (List.append_cons S p L▸h)
theorem Er{α:Type}{V:List α}{M:List Str}:∀{N:List Str},V.length=N.length→(N++M).zip V=N.zip V:=by
 induction V with
 |nil=>intro N h;rw[List.zip_nil_right,List.zip_nil_right]
 |cons v V ih=>
  intro N h;induction N using qh with
  |nil=>exact absurd h (qS _)
  |cons n N=>exact congrArg _ (ih (Nat.succ.inj h))
theorem Ds{ns:List Str}:∀{vs:LV} {pre:List (Str×Value)},(pre.map (·.1)++ns).Nodup→ns.length=vs.length→
  ns.filterMap (fun n=>((pre++ns.zip vs).lookup n).map (n,·))=ns.zip vs:=by
 induction ns with
 |nil=>exact fun _ _=>rfl
 |cons n ns ih=>
  intro vs pre nd hl;induction vs using qh with
  |nil=>exact absurd hl (qS _)
  |cons v vs=>
   have e1:(pre++(n::ns).zip (v::vs)).lookup n=some v:=by
    rw[List.lookup_append,uv fun hm=>(List.nodup_append.mp nd).2.2 _ hm _ qi rfl,List.zip_cons_cons,List.lookup_cons,beq_self_eq_true];rfl
   rw[List.filterMap_cons,e1];refine congrArg (_::·) ?_;have:=ih (vs:=vs) (pre:=pre++[(n,v)]) (by rw[List.map_append,List.append_assoc];exact nd) (Nat.succ.inj hl)
   rwa [List.append_assoc]at this
theorem Ho{α:Type}{N:List Str}:∀{V:List α},N.length=V.length→(N.zip V).map (·.1)=N:=by
 intro V h;exact List.map_fst_zip (qA h)
theorem Pp{N1 N2 N3:List Str}{V D2 D3:LV}(hV:V.length=(N1++N2).length)(h2:N2.length=D2.length)(h3:N3.length=D3.length)(nd:(N1++N2++N3).Nodup):
  ((N2++N3).zip (D2++D3)).foldl jl ((N1++N2++N3).zip V)=(N1++N2++N3).zip (V++D3):=by
 rw[List.zip_append h2,List.foldl_append,Er hV,List.zip_append hV.symm,Jb _ _ fun p hp=>Ai (qA hV.symm) (List.mem_append_right _ (List.of_mem_zip (a:=p.1) (b:=p.2) hp).1)];exact Po _ _ (by rw[List.map_append,Ho hV.symm,Ho h3];exact nd)
theorem Es{α:Type}{l:List α}{a b:Nat}(h:l.length=a+b):∃x y,l=x++y∧x.length=a∧y.length=b:=
 ⟨l.take a,l.drop a,(List.take_append_drop ..).symm,by rw[List.length_take,h];exact Nat.min_eq_left (qp ..),by rw[List.length_drop,h];exact Nat.add_sub_cancel_left ..⟩
theorem aaZ{n v d:Nat}(h1:v≤n)(h2:d≤n)(h3:n≤v+d):∃a b c,n=a+b+c∧d=b+c∧v=a+b:=by
 obtain⟨a,x⟩:=Nat.le.dest h2;obtain⟨b,y⟩:=Nat.le.dest h3;obtain⟨c,z⟩:=Nat.le.dest h1;have w:a+b=v:=Nat.add_left_cancel (n:=d) (by rw[←Nat.add_assoc,x,y,Nat.add_comm]);have e:n=a+b+c:=by rw[w,z]
 exact⟨a,b,c,e,Nat.add_left_cancel (n:=a) (by rw[Nat.add_comm,x,e,Nat.add_assoc]),w.symm⟩
theorem aa0{a b c:Nat}:a+b+(b+c)-(a+b+c)=b:=by rw[Nat.add_comm b c,←Nat.add_assoc,Nat.add_sub_cancel_left]
theorem TV{ns:List Str}{vals ds D:LV}(hD:D=ds)(h1:vals.length≤ns.length)(h2:ds.length≤ns.length)(h3:ns.length≤vals.length+ds.length)(nd:ns.Nodup):
  (!((ns.take (ns.length-D.length)).filter fun n=>((ns.zip vals).lookup n).isNone).isEmpty)=false∧
  (ns++[]).filterMap (fun n=>((((ns.drop (ns.length-D.length)).zip D).foldl jl (ns.zip vals)).lookup n).map (n,·))=ns.zip (vals++ds.drop (vals.length+ds.length-ns.length)):=by
 subst hD;obtain⟨a,b,c,ea,eb,ec⟩:=aaZ h1 h2 h3;clear h1 h2 h3;obtain⟨N,N3,rfl,hN,hN3⟩:=Es ea;obtain⟨N1,N2,rfl,hN1,hN2⟩:=Es hN;obtain⟨D2,D3,rfl,hD2,hD3⟩:=Es eb;have hV:vals.length=(N1++N2).length:=ec.trans hN.symm;rw[show(N1++N2++N3).length-(D2++D3).length=N1.length by rw[ea,eb,hN1,Nat.add_assoc,Nat.add_sub_cancel],show vals.length+(D2++D3).length-(N1++N2++N3).length=D2.length by rw[ec,eb,ea,hD2];exact aa0,List.append_nil,List.drop_left,List.append_assoc,List.take_left,List.drop_left,←List.append_assoc,Pp hV (hN2.trans hD2.symm) (hN3.trans hD3.symm) nd];refine⟨?_,Ds (pre:=[]) nd (by rw[List.length_append (as:=N1++N2),List.length_append (as:=vals),hV,hN3,hD3])⟩;rw[List.filter_eq_nil_iff.mpr fun x hx e=> ?_]
 ·rfl
 ·obtain⟨v,hv⟩:=Ai (x:=x) (qA hV.symm) (List.mem_append_left _ hx);rw[Er hV,hv]at e;exact ft e
theorem Zf(h:(a&&b)=true):a=true:=by induction a using qd with|true=>rfl|false=>exact ft h
theorem uZ{α β:Type}{x:Sem α}{a:α}{f:α→Sem β}(h:x=pure a):x>>=f=f a:=h▸pure_bind a f
theorem Mc{as:List Arg}{kd:List (Option Expr)}{dd:List Expr}{vals:LV}(hp:fd.params=⟨[],as,none,[],kd,none,dd⟩)(h1:vals.length≤(as.map (·.arg)).length)(nd:(as.map (·.arg)).Nodup):
  ∃k,bindArgs fd ⟨vals,[]⟩=seqItems? fd.defaults>>=k∧∀o:Option (Array Value),(o.getD #[]).toList.length≤(as.map (·.arg)).length→(as.map (·.arg)).length≤vals.length+(o.getD #[]).toList.length→
   k o=pure ((as.map (·.arg)).zip (vals++(o.getD #[]).toList.drop (vals.length+(o.getD #[]).toList.length-(as.map (·.arg)).length))):=by
 unfold bindArgs;rw[hp];dsimp only[List.map_nil,List.nil_append];refine⟨_,uZ List.forIn_nil,fun o h2 h3=> ?_⟩;obtain⟨R1,R2⟩:=TV (D:=(o.getD #[]).toList.drop ((o.getD #[]).toList.length-(as.map (·.arg)).length)) (by rw[Nat.sub_eq_zero_of_le h2,List.drop_zero]) h1 h2 h3 nd;exact(if_neg fun e=>absurd (of_decide_eq_true (Zf e)) (Nat.not_lt.mpr h1)).trans ((if_neg fun e=>ft (R1.symm.trans e)).trans ((uZ (Ja _ jl (fun x c=>by rw[jl];split<;>rfl) _ _)).trans ((uZ List.forIn_nil).trans ((if_neg qE).trans (congrArg pure R2)))))
theorem Et(hp:xS fd.params=some args)(h1:vals.length≤args.length)(h2:ds.length≤args.length)(h3:args.length≤vals.length+ds.length)(nd:(args.map (·.arg)).Nodup):
  ∃k,bindArgs fd ⟨vals,[]⟩=seqItems? fd.defaults>>=k∧∀o:Option (Array Value),(o.getD #[]).toList=ds→k o=pure ((args.map (·.arg)).zip (vals++ds.drop (vals.length+ds.length-args.length))):=by
 have L:args.length=(args.map (·.arg)).length:=(List.length_map ..).symm;rw[L]at h1 h2 h3⊢;obtain⟨k,hk,h⟩:=Mc (I9 hp) h1 nd;exact⟨k,hk,fun o ho=>ho▸h o (ho▸h2) (ho▸h3)⟩
noncomputable def namesOf:List Arg→List Str
 |[]=>[]
 |a::r=>a.arg::namesOf r
theorem u0(l:List Arg):namesOf l=l.map (·.arg):=by
 induction l with
 |nil=>rfl
 |cons a r ih=>exact congrArg (a.arg::·) ih
noncomputable def Pq(x:Str):List Str→Bool
 |[]=>false
 |y::l=>Cz (seq x y) (Pq x l)
noncomputable def rP:List Str→Bool
 |[]=>true
 |x::l=>eW (i8 (Pq x l)) (rP l)
theorem Wb(h:b=true):Cz a b=true:=by induction a using qd with|true=>rfl|false=>exact h
theorem TX(h:x∈l):Pq x l=true:=by
 induction h with
 |head l=>exact(congrArg (Cz · _) (gA.mpr rfl:seq x x=true)).trans rfl
 |tail y _ ih=>exact Wb ih
theorem u5(h:i8 a=true):a=false:=by induction a using qd with|false=>rfl|true=>exact ft h
theorem sN(h:rP l=true):l.Nodup:=by
 induction l with
 |nil=>exact List.nodup_nil
 |cons x l ih=>exact List.nodup_cons.mpr ⟨fun hm=>tf ((TX hm).symm.trans (u5 (bk h).1)),ih (bk h).2⟩
noncomputable def zw{α:Type}:List Str→List α→List (Str×α)
 |[],_=>[]
 |n::ns,vs=>match vs with
  |[]=>[]
  |v::vs=>(n,v)::zw ns vs
noncomputable def Jc{α:Type}:Nat→List α→List α
 |0,l=>l
 |n+1,l=>match l with
  |[]=>[]
  |_::l=>Jc n l
theorem Pr{α:Type}(n:Nat):∀(l:List α),Jc n l=l.drop n:=by
 induction n with
 |zero=>exact fun _=>rfl
 |succ n ih=>intro l;induction l using qh with|nil=>rfl|cons x l=>exact ih l
noncomputable def BE:NameKind→Bool:=fun k=>match k with
 |.cell=>true
 |_=>false
noncomputable def Eu:NameKind→Bool:=fun k=>match k with
 |.local=>true
 |_=>false
noncomputable def gJ:List (Str×NameKind)→Bool
 |[]=>true
 |p::l=>eW (i8 (BE p.2)) (gJ l)
theorem nj(h:gJ l=true):∀x∈l,x.2≠.cell:=by
 intro x hx;induction hx with
 |head l=>intro e;have:=u5 (bk h).1;rw[e]at this;exact tf this
 |tail y _ ih=>exact ih (bk h).2
noncomputable def Me(cells:Bool)(o:Option NameKind):Bool:=match o with
 |some k=>Cz (Eu k) (eW cells (BE k))
 |none=>false
theorem Mf(h:Me cells o=true):o=some .local∨(cells=true∧o=some .cell):=by
 induction o using qe with
 |none=>exact ft h
 |some k=>induction k using PySem.NameKind.casesOn<;>first|exact .inl rfl|exact .inr ⟨(bk h).1,rfl⟩|exact ft (bk h).2
noncomputable def xT(names:List (Str×NameKind))(cells:Bool):List Str→Bool
 |[]=>true
 |x::l=>eW (Me cells (lk x names)) (xT names cells l)
theorem Jd(h:xT names cells l=true):∀x∈l,names.lookup x=some .local∨(cells=true∧names.lookup x=some .cell):=by
 intro x hx;induction hx with
 |head l=>exact xH .. ▸Mf (bk h).1
 |tail y _ ih=>exact ih (bk h).2
noncomputable def Je(k:ScopeKind):Bool:=match k with
 |.function=>true
 |_=>false
theorem Ew(h:Je k=true):k=.function:=by induction k using PySem.ScopeKind.casesOn<;>first|rfl|exact ft h
noncomputable def uw(s:Scope):Bool:=eW (Je s.kind) (eW (i8 s.isGenerator) (i8 s.isCoroutine))
theorem p9(h:uw s=true):s.kind=.function∧s.isGenerator=false∧s.isCoroutine=false:=
 ⟨Ew (bk h).1,u5 (bk (bk h).2).1,u5 (bk (bk h).2).2⟩
noncomputable def u6(fd:FuncData)(ds args:List V):Option ai:=cC (xS fd.params) fun ps=>fH (rP (namesOf ps)) (fH (Nat.ble (len args) (len ps)) (fH (Nat.ble (len ds) (len ps)) (fH (Nat.ble (len ps) (Nat.add (len args) (len ds)))
 (fH (xT fd.scope.names (i8 (gJ fd.scope.names)) (namesOf ps)) (some (zw (namesOf ps) (args++Jc (Nat.sub (Nat.add (len args) (len ds)) (len ps)) ds)))))))
noncomputable def Wc:Out→Option V:=fun o=>match o with
 |.next=>some .none
 |.ret v=>some v
 |_=>none
noncomputable def xU(fd:FuncData)(ds:List V)(free:ai):Bool:=eW (uw fd.scope) (Cz (gJ fd.scope.names) (eW (eB ds) (eB free)))
noncomputable def fV(ev:Ev)(k:Nat)(fd:FuncData)(ds:List V)(free:ai)(args:List V)(st:St):aA (V×St):=dQ (xU fd ds free) (cy (u6 fd ds args) fun m=>match fd.body with
 |.stmts body=>(ev.b k ⟨fd.scope,free⟩ m st body).bind fun p=>lu p.2 (Wc p.1.1)
 |.expr e=>dQ (gJ fd.scope.names) (ev.e k ⟨fd.scope,free⟩ m st e))
structure Hp (I:IM) (P:Params) (σ:Nat→Addr) (n:Nat) (a:Addr) (fd:FuncData) (ds:List V) (free:ai):Prop where
 at_:∃o,I a=some o∧o.data=.func fd
 code:∃c co vs t,fd.code=.ref c∧I c=some co∧co.data=.fields vs∧vs[1]? =some (.str fd.qualname t)
 glob:fd.globals=mainGlobals
 blt:fd.builtins=builtinsNs
 jy:iX I P σ n free fd.closure
 G5:(fd.defaults=.none∧ds=[])∨∃T m xs,fd.defaults=.ref T∧I T=some {cls:=.type "tuple",data:=.seq xs.toArray m}∧aG I P σ n ds xs∧ds≠[]
section
variable{cx:Cx}{st:St}{s:Shared}
theorem sL.deeper(f:sL (k+1) A):sL k (A.deeper env):=
 ⟨by have:=f.depth;show A.depth+1+2*k<_;lia,by have:=f.units;show A.units+3+12*k<_;lia,f.handled,f.guards⟩
theorem aM.strip(x:aM P X I σ n h I' af st' h')(hx:∀b,X b→h.get? b=none):aM P (fun _=>False) I σ n h I' af st' h':=
 ⟨x.le,x.fresh,x.new,x.rel,fun b o e _ hk=>x.keep b o e (fun q=>by rw[hx b q]at e;exact nn e) hk,x.alive⟩
theorem BF{x:Str}{v:V}{ns:List Str}:∀{vs:List V} {ys:LV},aG I P σ n vs ys→lk x (zw ns vs)=some v→∃y,(x,y)∈ns.zip ys∧aq I P σ n v y:=by
 induction ns with
 |nil=>exact fun _ e=>nn e
 |cons m ns ih=>
  intro vs ys r e;induction vs using qh with
  |nil=>exact nn e
  |cons u vs=>
   replace r:=r.inv;induction r using dP.casesOn with
   |mk h r=>
    refine jj (b:=seq x m) e (fun q e=>⟨_,by rw[gA.mp q];exact qi,(qc e:u=v)▸h⟩) fun q e=> ?_;obtain⟨y,hy,ry⟩:=ih r e;exact⟨y,qj _ hy,ry⟩
theorem pT{α:Type}{l:List (Str×α)}{x:Str}{y:α}(nd:(l.map (·.1)).Nodup)(h:(x,y)∈l):l.lookup x=some y:=by
 induction l with
 |nil=>exact absurd h qN
 |cons p l ih=>
  rw[List.map_cons,List.nodup_cons]at nd;rw[List.lookup_cons];induction q:x==p.1 using qd with
  |true=>exact(List.mem_cons.mp h).elim (fun e=>e▸rfl) fun h=>absurd (beq_iff_eq.mp q▸List.mem_map.mpr ⟨(x,y),h,rfl⟩) nd.1
  |false=>exact ih nd.2 ((List.mem_cons.mp h).resolve_left fun e=>beq_eq_false_iff_ne.mp q (e▸rfl))
theorem Jf{α:Type}{l:List (Str×α)}{x:Str}{y:α}(nd:(l.map (·.1)).Nodup)(h:(x,y)∈l):l.reverse.lookup x=some y:=
 pT (by rw[List.map_reverse];exact List.pairwise_reverse.mpr (nd.imp Ne.symm)) (List.mem_reverse.mpr h)
theorem Mg:∀{cs:List (Str×Addr)},iX I P σ n free cs→lk x free=some v→
  ∃c y co,cs.lookup x=some c∧I c=some co∧co.data=.cell (some y)∧aq I P σ n v y:=by
 induction free with
 |nil=>exact fun _ e=>nn e
 |cons p free ih=>
  intro cs r e;replace r:=r.inv;induction r using nH.casesOn with
  |mk g gd h r=>
   refine jj e (fun q e=>⟨_,_,_,by rw[List.lookup_cons,beq_iff_eq.mpr (gA.mp q)],g,gd,(qc e:p.2=v)▸h⟩) fun q e=> ?_;obtain⟨c,y,co,h1,h2⟩:=ih r e;exact⟨c,y,co,by rw[List.lookup_cons,beq_eq_false_iff_ne.mpr (iE.mp q)];exact h1,h2⟩
theorem cellsFrom_some:∀{n:Nat} {acc:List (Str×Addr)},(names.lookup x=some .cell∨∃c,acc.lookup x=some c)→∃c,(cellsFrom n names acc).lookup x=some c:=by
 induction names with
 |nil=>exact fun h=>h.resolve_left fun e=>nn e
 |cons p r ih=>
  intro n acc h;rw[List.lookup_cons]at h;rw[cellsFrom];induction q:x==p.1 using qd with
  |true=>
   rw[q]at h
   split
   ·exact ih (.inr ⟨n,by rw[List.lookup_cons,q]⟩)
   ·rename_i hk
    exact ih (.inr (h.resolve_left fun e=>hk (beq_iff_eq.mpr (qc e))))
  |false=>
   rw[q]at h
   split
   ·exact ih (h.imp id (by rintro⟨c,e⟩;exact⟨c,by rw[List.lookup_cons,q];exact e⟩))
   ·exact ih h
theorem Hq{G:List (Str×Value)→(Str→Option Value)→Str→Option Value}{f:Str→Value→(Str→Option Value)→Str→Option Value}(h0:∀m,G [] m=m)(h1:∀n v r m,G ((n,v)::r) m=G r (f n v m))(hx:∀v m,f x v m x=some v)
  (hy:∀n v m,x≠n→f n v m x=m x):∀{m:Str→Option Value},(mS.map (·.1)).Nodup→((x,y)∈mS∨(x∉mS.map (·.1)∧m x=some y))→G mS m x=some y:=by
 induction mS with
 |nil=>exact fun _ h=>(h0 _).symm▸(h.resolve_left qN).2
 |cons p r ih=>
  intro m nd h;rw[List.map_cons,List.nodup_cons]at nd;rw[h1];refine ih nd.2 ?_;rcases h with h|⟨h,e⟩
  ·rcases List.mem_cons.mp h with h|h
   ·subst h;exact .inr ⟨nd.1,hx y m⟩
   ·exact .inl h
  ·rw[List.map_cons,List.mem_cons,not_or]at h;exact .inr ⟨h.2,(hy _ _ _ h.1).trans e⟩
theorem Pu{kindOf:Str→Option NameKind}{mS:List (Str×Value)}(nd:(mS.map (·.1)).Nodup)(hk:kindOf x=some .local)(h:(x,y)∈mS):bindL kindOf mS m x=some y:=
 Hq (G:=bindL kindOf) (fun _=>rfl) (fun _ _ _ _=>rfl) (fun v m=>by rw[if_pos hk,if_pos rfl]) (fun n v m q=>by split<;>first|exact if_neg q|rfl) nd (.inl h)
theorem Pw{kindOf:Str→Option NameKind}{mS:List (Str×Value)}(nd:(mS.map (·.1)).Nodup)(hk:kindOf x=some .cell)(h:(x,y)∈mS):bindC kindOf mS m x=some y:=
 Hq (G:=bindC kindOf) (fun _=>rfl) (fun _ _ _ _=>rfl) (fun v m=>by rw[if_neg (by rw[hk];decide),if_pos rfl]) (fun n v m q=>by split<;>first|rfl|exact if_neg q) nd (.inl h)
theorem map_fst_zip{ns:List Str}:∀{vs:LV},((ns.zip vs).map (·.1)).Sublist ns:=by
 induction ns with
 |nil=>exact .slnil
 |cons n ns ih=>intro vs;induction vs using qh with|nil=>exact List.nil_sublist _|cons v vs=>exact ih.cons_cons _
theorem wF{ns:List Str}{vs:LV}(nd:ns.Nodup):((ns.zip vs).map (·.1)).Nodup:=map_fst_zip.nodup nd
theorem yI{a:Addr}{free:List (Str×V)}{ns:List Str}{vs:List V}{ys:LV}{h₀:Heap}(H:au cx k A I σ st s)(yJ:uw fd.scope=true)(hg:fd.globals=mainGlobals)(hb:fd.builtins=builtinsNs)
  (hc:gJ fd.scope.names=true)(nd:ns.Nodup)(r:aG I cx.P σ st.length vs ys)(rf:iX I cx.P σ st.length free fd.closure)
  (ux:h₀.Ns s.heap.objs.size (fun x=>(ns.zip ys).reverse.lookup x))(kp:∀b o,s.heap.get? b=some o→h₀.get? b=some o):
  av cx.P ⟨fd.scope,free⟩ (zw ns vs) (callEnv fd s.heap.objs.size a) I σ st.length h₀:=by
 have nc:∀x,(callEnv fd s.heap.objs.size a).kindOf x≠some .cell:=fun x e=>nj hc _ (zY ((xH ..).trans (e:fd.scope.names.lookup x=_))) rfl;have dz:=dD s.heap;have ow:∀b,aF (callEnv fd s.heap.objs.size a) b→b=s.heap.objs.size:=fun b ob=>by
  rcases ob with h|⟨x,hx,_⟩
  ·exact h
  ·exact absurd hx (nc x)
 refine⟨rfl,(p9 yJ).1,hg,hb,⟨_,ux,fun x v e hk=> ?_⟩,fun x v e hk=>absurd hk (nc x),fun x hk=>absurd hk (nc x),fun x v e hk=> ?_,fun b ob=> ?_,fun x c hk _=>absurd hk (nc x),fun x y c hk=>absurd hk (nc x)⟩
 ·obtain⟨y,hm,ry⟩:=BF r e;exact⟨y,Jf (wF nd) hm,ry⟩
 ·obtain⟨c,y,co,h1,h2,h2',h3⟩:=Mg rf e;have hs:=H.rel.sub _ _ h2;refine⟨c,y,h1,⟨_,kp _ _ hs,h2'⟩,h3,fun ob=> ?_,fun j hj z=> ?_⟩
  ·rw[ow c ob,dz]at hs;exact nn hs
  ·have:=H.rel.out j hj;rw[z,h2]at this;cases this
 ·obtain rfl:=ow b ob;refine⟨H.rel.OX,fun j hj z=> ?_⟩;obtain⟨o,ho⟩:=H.rel.live hj;rw[z,dz]at ho;exact nn ho
theorem GG{a:Addr}{ns:List Str}{vs:List V}{ys:LV}{s₁:Shared}(H:au cx k A I σ st s)(yJ:uw fd.scope=true)(hg:fd.globals=mainGlobals)(hb:fd.builtins=builtinsNs)
  (nd:ns.Nodup)(r:aG I cx.P σ st.length vs ys)
  (x:InCallC s (callEnvC fd s.heap.objs.size a).locals (bindL (callEnvC fd s.heap.objs.size a).kindOf (ns.zip ys) fun _=>none) (callEnvC fd s.heap.objs.size a).cells (bindC (callEnvC fd s.heap.objs.size a).kindOf (ns.zip ys) fun _=>none) s₁):
  av cx.P ⟨fd.scope,[]⟩ (zw ns vs) (callEnvC fd s.heap.objs.size a) I σ st.length s₁.heap:=by
 have dead:∀b,s.heap.objs.size≤b→s.heap.get? b=none:=fun b hb=>by
  induction q:s.heap.get? b using qe with
  |none=>rfl
  |some o=>exact absurd (Heap.lt_size q) (Nat.not_lt.mpr hb)
 have cl:∀x,(callEnvC fd s.heap.objs.size a).kindOf x=some .cell→∃c,(callEnvC fd s.heap.objs.size a).cells.lookup x=some c:=fun x hk=>
  cellsFrom_some (.inl hk)
 have ow:∀b,aF (callEnvC fd s.heap.objs.size a) b→s.heap.objs.size≤b:=fun b ob=>by
  rcases ob with h|⟨z,_,hc⟩
  ·exact h▸qf _
  ·exact qL (x.above z b (mem_of_lookup hc))
 refine⟨rfl,(p9 yJ).1,hg,hb,⟨_,x.toInCall.ns,fun z v e hk=> ?_⟩,fun z v e hk=> ?_,fun z hk=> ?_,fun z v e hk=>(nomatch e),fun b ob=> ?_,fun z c hk hc=> ?_,fun z y c hk nI hc Mh=> ?_⟩
 ·obtain⟨y,hm,ry⟩:=BF r e;exact⟨y,Pu (wF nd) hk hm,ry⟩
 ·obtain⟨y,hm,ry⟩:=BF r e;obtain⟨c,hc⟩:=cl z hk;have:=x.cell z c hc;rw[Pw (wF nd) hk hm]at this;exact⟨c,y,hc,this,ry⟩
 ·obtain⟨c,hc⟩:=cl z hk;exact⟨c,_,hc,x.cell z c hc⟩
 ·have:=ow b ob;refine⟨H.rel.pZ (dead b this),fun j hj z=> ?_⟩;obtain⟨o,ho⟩:=H.rel.live hj;rw[z,dead b this]at ho;exact nn ho
 ·exact Nat.ne_of_gt (x.above z c (mem_of_lookup hc))
 ·exact name_of_addr x.apart (mem_of_lookup hc) (mem_of_lookup Mh)
theorem RQ{α β:Type}{l:List α}{m:List β}(h:Nat.ble (len l) (len m)=true):l.length≤m.length:=by
 rw[←i7,←i7];exact qo h
theorem aG.drop{P:Params}{n:Nat}{j:Nat}:∀{vs:List V} {xs:LV},aG I P σ n vs xs→aG I P σ n (vs.drop j) (xs.drop j):=by
 induction j with
 |zero=>exact fun r=>r
 |succ j ih=>
  intro vs xs r;induction vs using qh with
  |nil=>rw[show xs=[]from r.inv];exact .nil
  |cons v vs=>
   replace r:=r.inv;induction r using dP.casesOn with|mk h r=>exact ih r
theorem Mi{fd:FuncData}{ds args:List V}{m:ai}(h:u6 fd ds args=some m):∃ps,xS fd.params=some ps∧(ps.map (·.arg)).Nodup∧args.length≤ps.length∧ds.length≤ps.length∧ps.length≤args.length+ds.length∧
  xT fd.scope.names (i8 (gJ fd.scope.names)) (namesOf ps)=true∧m=zw (ps.map (·.arg)) (args++ds.drop (args.length+ds.length-ps.length)):=aK h fun ps h1 h=>by
 have h2:=cW h;have h3:=cW h2;have h4:=cW h3;have h5:=cW h4;have l3:=qo (cP h4);have e:=qc (cW h5);rw[show Nat.add (len args) (len ds)=len args+len ds from rfl,i7,i7,i7]at l3;rw[Pr,show Nat.sub (Nat.add (len args) (len ds)) (len ps)=len args+len ds-len ps from rfl,i7,i7,i7,u0]at e;exact⟨ps,h1,u0 ps▸sN (cP h),RQ (cP h2),RQ (cP h3),l3,cP h5,e.symm⟩
theorem Hs(F:Hp I cx.P σ st.length a fd ds free)(Px:∀b o,I b=some o→s.heap.get? b=some o)(r:aG I cx.P σ st.length args ys)(hm:u6 fd ds args=some m):
  ∃ns vs zs,ns.Nodup∧(∀x∈ns.zip zs,fd.scope.names.lookup x.1=some .local∨(i8 (gJ fd.scope.names)=true∧fd.scope.names.lookup x.1=some .cell))∧m=zw ns vs∧aG I cx.P σ st.length vs zs∧
   BindsTo s fd ⟨ys,[]⟩ (ns.zip zs)∧(ds=[]→bindArgs fd ⟨ys,[]⟩=pure (ns.zip zs)):=by
 obtain⟨ps,Mj,nd,l1,l2,l3,Aj,em⟩:=Mi hm;have hk:∀zs:LV,∀x∈(ps.map (·.arg)).zip zs,fd.scope.names.lookup x.1=some .local∨(i8 (gJ fd.scope.names)=true∧fd.scope.names.lookup x.1=some .cell):=fun zs x hx=>Jd Aj x.1 (u0 ps▸(List.of_mem_zip (a:=x.1) (b:=x.2) hx).1);rw[←r.length]at l1 l3;rcases F.G5 with⟨q1,rfl⟩|⟨T,n,xs,q1,q2,q3,q4⟩
 ·obtain⟨kk,b1,b2⟩:=Et (ds:=[]) Mj l1 l2 l3 nd;rw[q1]at b1;have b:=b1.trans ((pure_bind _ _).trans (b2 none rfl));rw[List.drop_nil,List.append_nil]at b em;exact⟨_,_,ys,nd,hk _,em,r,BindsTo.of_eq b,fun _=>b⟩
 ·rw[←q3.length]at l2 l3;obtain⟨kk,b1,b2⟩:=Et Mj l1 l2 l3 nd;rw[←r.length,←q3.length]at em;exact⟨_,_,_,nd,hk _,em,r.append q3.drop,BindsTo.of_defaults q1 (Px _ _ q2) rfl b1 (b2 _ rfl),fun q=>absurd q q4⟩
theorem Hp.Py(F:Hp I cx.P σ st.length a fd ds free)(Px:∀b o,I b=some o→s.heap.get? b=some o):s.heap.CodeRec fd.code fd.qualname:=
 (by obtain⟨c,co,vs,t,q1,q2,q3,q4⟩:=F.code;exact⟨c,co,vs,t,q1,Px _ _ q2,q3,q4⟩)
set_option backward.match.sparseCases true in
theorem Ex(H:au cx (k+1) A I σ st s)(F:Hp I cx.P σ st.length a fd ds free)
  (r:aG I cx.P σ st.length args ys)(CD:xU fd ds free=true)(hm:u6 fd ds args=some m)(nM:fd.body=.stmts body)
  (h:∀env s₁,((gJ fd.scope.names=true∧env=callEnv fd s.heap.objs.size a)∨(gJ fd.scope.names=false∧env=callEnvC fd s.heap.objs.size a))→(∀b,aF env b→s.heap.get? b=none)→(∀b o,s.heap.get? b=some o→s₁.heap.get? b=some o)→bw s s₁→sL k (A.deeper env)→
   av cx.P ⟨fd.scope,free⟩ m env I σ st.length s₁.heap→∀E':dS,wpAny cx.M (A.deeper env) (execs body env) (fun f s'=>R (.ok (.ret (match f with|.ret v=>v|_=>.none))) s') E' s₁):codeAny cx.M A (.call (.ref a) ⟨ys,[]⟩) R s:=by
 obtain⟨yJ,Ml⟩:=bk CD;obtain⟨sk,sg,sc⟩:=p9 yJ;obtain⟨o,ho,hd⟩:=F.at_;obtain⟨ns,vs,zs,nd,Aj,rfl,Jg,Jh,hb⟩:=Hs F H.rel.sub r hm;have Wd:A.depth<recursionLimit:=by have:=H.fit.depth;lia
 induction vQ:gJ fd.scope.names using qd with
 |true=>
  rw[vQ]at Aj h;refine codeAny_call_def Wd (H.rel.sub _ _ ho) hd (H.base.limit H.rel.sub) (F.Py H.rel.sub) nM Jh (nj vQ) (fun z hz=>(Aj z hz).resolve_right fun q=>ft q.1) (fun h₀ ux kp=> ?_) sc sg sk;refine h _ {s with heap:=h₀,toks:=s.toks+_} (.inl ⟨rfl,rfl⟩) (fun b ob=> ?_) kp ⟨rfl,rfl,rfl⟩ H.fit.deeper (yI H yJ F.glob F.blt vQ nd Jg F.jy ux kp) _;rcases ob with q|⟨z,hz,_⟩
  ·rw[q];exact dD _
  ·exact absurd rfl (nj vQ _ (zY ((xH ..).trans (hz:fd.scope.names.lookup z=_))))
 |false=>
  rw[vQ]at Aj h Ml;obtain⟨q1,q2⟩:=bk (Ml:eW _ _=true);obtain rfl:=cH q2;have jy:fd.closure=[]:=by
   have c:=F.jy.inv;induction wG:fd.closure using qh with
   |nil=>rfl
   |cons=>rw[wG]at c;cases c
  refine codeAny_call_cells Wd (H.rel.sub _ _ ho) hd (H.base.limit H.rel.sub) (F.Py H.rel.sub) nM (hb (cH q1)) jy (fun z hz=>(Aj z hz).imp id fun q=>⟨q.2,Option.isSome_iff_exists.mpr (cellsFrom_some (.inl q.2))⟩) (fun s₁ x=> ?_) sc sg sk;obtain⟨h',tk,es,kp⟩:=x.done;refine h _ _ (.inr ⟨rfl,rfl⟩) (fun b ob=> ?_) x.toInCall.keep (es▸⟨rfl,rfl,rfl⟩) H.fit.deeper (GG H yJ F.glob F.blt nd Jg x) _;rcases ob with q|⟨z,_,Mh⟩
  ·rw[q];exact dD _
  ·induction q:s.heap.get? b using qe with
   |none=>rfl
   |some o'=>exact absurd (Heap.lt_size q) (Nat.not_lt.mpr (qL (x.above z b (mem_of_lookup Mh))))
set_option backward.match.sparseCases true in
theorem TZ(S:aU cx ev){R:Result→Shared→Prop}(hR:∀v s',Q v s'→R (.ok (.ret v)) s')(H:au cx (k+1) A I σ st s){env:Env}{s₁:Shared}(rQ:∀b,aF env b→s.heap.get? b=none)
  (kp:∀b o,s.heap.get? b=some o→s₁.heap.get? b=some o)(sm:bw s s₁)(hf:sL k (A.deeper env))(l:av cx.P fe m env I σ st.length s₁.heap)(g:Good cx.S cx.pre ((ev.b k fe m st body).bind fun p=>lu p.2 (Wc p.1.1)) (EV cx I σ st s Q)):
  wpAny cx.M (A.deeper env) (execs body env) (fun f s'=>R (.ok (.ret (match f with|.ret v=>v|_=>.none))) s') E s₁:=by
 have ex:=aM.grow H.rel kp;refine S.b ⟨hf,H.base,ex.rel⟩ l (Good.mono (fun p gp I' af f s' x CE ro=> ?_) (Good.bind g));obtain⟨⟨out,m'⟩,st'⟩:=p;obtain⟨v,hv,gp⟩:=kj (β:=V) gp;have x':=aM.strip ((ex.weaken (fun _ q=>q.elim)).trans x) rQ;replace ro:=ro.1;induction out using Out.casesOn with
 |next=>obtain rfl:=ro;exact hR _ _ (gp I' af _ s' x' (sm.trans CE) (qc hv▸.none))
 |ret u=>obtain⟨_,rfl,h⟩:=ro;exact hR _ _ (gp I' af _ s' x' (sm.trans CE) ((qc hv:u=v)▸h))
 |brk=>exact nn hv
 |cont=>exact nn hv
theorem Ua(S:aU cx ev){fd:FuncData}{ds args:List V}{free:List (Str×V)}{a:Addr}(hR:∀v s',Q v s'→R (.ok (.ret v)) s')(H:au cx (k+1) A I σ st s)(F:Hp I cx.P σ st.length a fd ds free)
  (r:aG I cx.P σ st.length args ys)(yJ:uw fd.scope=true)(hm:u6 fd ds args=some m)(nM:fd.body=.expr body)(vQ:gJ fd.scope.names=true)(g:Good cx.S cx.pre (ev.e k ⟨fd.scope,free⟩ m st body) (EV cx I σ st s Q)):codeAny cx.M A (.call (.ref a) ⟨ys,[]⟩) R s:=by
 obtain⟨sk,sg,sc⟩:=p9 yJ;obtain⟨o,ho,hd⟩:=F.at_;obtain⟨ns,vs,zs,nd,Aj,rfl,Jg,Jh,_⟩:=Hs F H.rel.sub r hm;rw[vQ]at Aj;refine kla_callFunE (by have:=H.fit.depth;lia) (H.rel.sub _ _ ho) hd sc sg nM (F.Py H.rel.sub) (Jh _ _ _ _ ?_);refine wpAny_newFunctionEnv (nj vQ) (fun z hz=>(Aj z hz).resolve_right fun q=>ft q.1) (fun h₀ We Mm=>⟨(H.base.limit H.rel.sub).fresh _ Mm,kla_codeExpr ?_⟩) sk;have kp:∀b o,s.heap.get? b=some o→h₀.get? b=some o:=fun b o e=>Mm.extBut b o (Nat.ne_of_lt (Heap.lt_size e)) (Heap.get?_push_of_some _ e);have ex:=aM.grow H.rel kp;exact S.e (s:={s with heap:=h₀,toks:=_}) ⟨H.fit.deeper,H.base,ex.rel⟩ (yI H yJ F.glob F.blt vQ nd Jg F.jy We kp) (Good.mono (fun p gp I' af y s' x sm ro=>hR _ _ (gp I' af y s' (ex.trans x) sm ro)) g)
theorem RS(S:aU cx ev)(H:au cx (k+1) A I σ st s)(F:Hp I cx.P σ st.length a fd ds free)
  (r:aG I cx.P σ st.length args ys)(hR:∀v s',Q v s'→R (.ok (.ret v)) s')(g:Good cx.S cx.pre (fV ev k fd ds free args st) (EV cx I σ st s Q)):codeAny cx.M A (.call (.ref a) ⟨ys,[]⟩) R s:=by
 obtain⟨CD,g⟩:=bA g;refine aN g fun m hm g=> ?_;induction nM:fd.body using PySem.FuncBody.casesOn with
 |stmts body=>
  rw[nM]at g;exact Ex H F r CD hm nM fun env s₁ _ rQ kp sm hf l E'=>TZ S hR H rQ kp sm hf l g
 |expr body=>
  rw[nM]at g;obtain⟨vQ,g⟩:=bA g;exact Ua S hR H F r (bk CD).1 hm nM vQ g
end
noncomputable def BG:V→Bool:=fun v=>match v with
 |.none=>true
 |_=>false
noncomputable def Mn(a:Addr):List (Addr×Addr)→Option Addr
 |[]=>none
 |p::l=>match Nat.beq a p.1 with
  |true=>some p.2
  |false=>Mn a l
theorem Ub(e:Mn a l=some b):(a,b)∈l:=by
 induction l with
 |nil=>exact nn e
 |cons p l ih=>
  rw[Mn.eq_2]at e;induction q:Nat.beq a p.1 using qd with
  |true=>rw[q]at e;rw[qt q,←qc e];exact .head _
  |false=>rw[q]at e;exact .tail _ (ih e)
noncomputable def Wf(l:List V):Option V:=match l with
 |[]=>none
 |x::l=>fH (eB l) (some x)
theorem Uc(h:Wf l=some x):l=[x]:=by
 induction l using qh with
 |nil=>exact nn h
 |cons y l=>
  induction l using qh with
  |nil=>exact congrArg (· ::[]) (qc h)
  |cons=>exact nn h
noncomputable def Ji{β:Type}(k:Nat)(f:Nat→aA β):aA β:=match k with
 |0=>.bad
 |k+1=>f k
noncomputable def Ud(cx:Cx)(ev:Ev)(k:Nat)(a:Addr)(args:List V)(st:St):aA (V×St):=Ji k fun k=>cy (Mn a cx.tab.T.makes) fun f=>cy (oh f cx.tab.fns) fun fd=>
 (fV ev k fd.1 fd.2 [] (.loc (Nat.succ st.length)::args) ((st++[.dict []])++[.inst a st.length])).bind fun p=>dQ (BG p.1) (.ok (.loc (Nat.succ st.length),p.2))
noncomputable def BH(cx:Cx)(ev:Ev)(k:Nat)(a:Addr)(args:List V)(st:St):aA (V×St):=match nL a cx.tab.asks with
 |true=>.ask (Nat.succ k) a args st fun v st'=>.ok (v,st')
 |false=>match oh a cx.tab.fns with
  |some fd=>fV ev k fd.1 fd.2 [] args st
  |none=>Ud cx ev k a args st
noncomputable def Ak:ai→List Str
 |[]=>[]
 |p::l=>p.1::Ak l
noncomputable def Dz:ai→List V
 |[]=>[]
 |p::l=>.str p.1::Dz l
noncomputable def CF(st:St)(fs:ai):aA (V×St):=dQ (rP (Ak fs)) (.need (fs.length<500) (.ok (.loc st.length,st++[.list [] (Dz fs)])))
noncomputable def Ht(t:TY)(args:List V)(st:St):aA (V×St):=match t with
 |.list=>cy (Wf args) fun v=>match oH st v with
  |some fs=>CF st fs
  |none=>Em t args st
 |_=>Em t args st
noncomputable def RT(cx:Cx)(ev:Ev)(k:Nat)(f:V)(args:List V)(st:St):aA (V×St):=match f with
 |.bi b=>Af cx b args st
 |.ty t=>Ht t args st
 |.top a=>Ji k fun k=>BH cx ev k a args st
 |.jy fd free=>Ji k fun k=>fV ev k fd [] free args st
 |_=>.bad
def Kept(cx:Cx):Prop:=∀{d:Nat} {a:Addr} {A:Around} {I:IM} {σ:Nat→Addr} {st:St} {s:Shared} {E:dS} {args:List V} {ys:LV} {Q:dS} {W:V→St→Prop},
 nL a cx.tab.asks=true→au cx d A I σ st s→aG I cx.P σ st.length args ys→cx.S d a args st W→(∀v st',W v st'→EV cx I σ st s Q (v,st'))→wpAny cx.M A (call (.ref a) ys) Q E s
section
variable{cx:Cx}{st:St}
theorem Wg(e:oh a cx.tab.fns=some fd):(a,fd.1,fd.2)∈cx.tab.fns:=ri e
theorem Ey(S:aU cx ev)(e:oh a cx.tab.fns=some fd)(H:au cx (k+1) A I σ st s)(r:aG I cx.P σ st.length args ys)
  (hR:∀v s',Q v s'→R (.ok (.ret v)) s')(g:Good cx.S cx.pre (fV ev k fd.1 fd.2 [] args st) (EV cx I σ st s Q)):codeAny cx.M A (.call (.ref a) ⟨ys,[]⟩) R s:=by
 obtain⟨⟨o,h1,h2,h3⟩,hc,gl,bl,cl,df⟩:=H.base.fns a fd.1 fd.2 (Wg e);exact RS S H ⟨⟨o,h1,h3⟩,hc,gl,bl,cl▸.nil,df.imp id (by rintro⟨T,n,xs,e1,e2,e3,e4⟩;exact⟨T,n,xs,e1,e2,e3.mono (Le.zero fun _ _ e=>e),e4⟩)⟩ r hR g
theorem sL.made(f:sL (k+1) A):sL k (A.under (.builtin "type.__call__" ⟨.ref C::rest,kw⟩)):=by
 have w:Code.weight (.builtin "type.__call__" ⟨.ref C::rest,kw⟩)=1:=by unfold Code.weight;rfl
 have u:Code.cUnits (.builtin "type.__call__" ⟨.ref C::rest,kw⟩)=1:=rfl;refine⟨?_, ?_,f.handled,by unfold Around.under;rw[f.guards];unfold Code.guards;simp only[Code.isGuard];rfl⟩
 ·have:=f.depth;show A.depth+_+2*k<_;rw[w];lia
 ·have:=f.units;show A.units+_+12*k<_;rw[u];lia
theorem Mp(R:cF cx.P I σ st h)(C:Addr):∃af,aM cx.P (fun _=>False) I σ st.length h I af ((st++[AO.dict []])++[AO.inst C st.length]) ((h.push emptyDict).push (instObj C h.objs.size))∧
  aq I cx.P af ((st++[AO.dict []])++[AO.inst C st.length]).length (.loc (Nat.succ st.length)) (.ref (h.objs.size+1)):=by
 have x1:=aM.zW (o:=emptyDict) (ao:=.dict []) R rfl (dw.dict (es:=[]) 0 .nil);have ln:(st++[AO.dict []]).length=st.length+1:=List.length_append;generalize gj σ st.length h.objs.size=aZ,(eH .. :gj σ st.length h.objs.size st.length=_)=e1 at x1;have x2:=aM.zW (o:=instObj C h.objs.size) (ao:=.inst C st.length) x1.rel rfl (by
  have:=dw.inst (I:=I) (P:=cx.P) (σ:=gj aZ (st++[AO.dict []]).length (h.push emptyDict).objs.size) (n:=(st++[AO.dict []]).length+1) C st.length (by rw[ln];exact kU);rw[jz _ (by rw[ln];exact iS),e1]at this;exact this)
 refine⟨_,x1.trans x2, ?_⟩;have:=aq.loc (I:=I) (P:=cx.P) (σ:=gj aZ (st++[AO.dict []]).length (h.push emptyDict).objs.size) (n₀:=((st++[AO.dict []])++[AO.inst C st.length]).length) (st++[AO.dict []]).length (by simp);rw[eH]at this;exact cast (congr (congrArg (aq I cx.P _ _) (congrArg V.loc ln)) (congrArg Value.ref (Heap.size_push h emptyDict))) this
theorem Jj(h:BG v=true):v=.none:=by induction v using V.casesOn<;>first|rfl|exact ft h
theorem Ue(S:aU cx ev)(hm:Mn C cx.tab.T.makes=some f)(e:oh f cx.tab.fns=some fd)(H:au cx (k+1+1) A I σ st s)(r:aG I cx.P σ st.length args ys)
  (g:Good cx.S cx.pre ((fV ev k fd.1 fd.2 [] (.loc (Nat.succ st.length)::args) ((st++[.dict []])++[.inst C st.length])).bind fun p=>dQ (BG p.1) (.ok (.loc (Nat.succ st.length),p.2))) (EV cx I σ st s Q)):wpAny cx.M A (call (.ref C) ys) Q E s:=by
 obtain⟨h,gg,d,t,os⟩:=s;have X:=H.base.zU H.rel.sub;have ok:=List.all_eq_true.mp H.base.tabs.makes _ (Ub hm);simp only[Lq,Bool.and_eq_true,beq_iff_eq]at ok;refine wpAny_call (make_core (makes_of X ok.1.1) (looks_findIn X ok.1.2) (fun Ez=>bind_fn X Ez ok.2) (.inl rfl) ?_);obtain⟨af,x,rs⟩:=Mp H.rel C;refine Ey S (Q:=fun v s'=>v=.none∧Q (.ref (h.objs.size+1)) s') (s:=⟨(h.push emptyDict).push (instObj C h.objs.size),gg,d,t,os⟩) e ⟨H.fit.made,H.base,x.rel⟩ (.cons rs (r.mono x.le)) (fun v s' hv=>hv) ?_;refine Good.mono (fun p gp I' af y s' x' sm ry=> ?_) (Good.bind g);obtain⟨hn,gp⟩:=bA gp;replace ry:=ry.inv;rw[Jj hn]at ry;subst ry;exact⟨rfl,gp I' af _ s' (x.trans x') sm (rs.mono x'.le)⟩
theorem EA(l:ai):Ak l=l.map (·.1):=by
 induction l with
 |nil=>rfl
 |cons p l ih=>exact congrArg (p.1::·) ih
theorem Mq(w:World)(hw:w.params=P)(prog:Program):∀{es:List DictEntry},bF I P σ n fs es→∃kvs:List (Str×Value),Pairs (strKind prog w) es kvs∧kvs.map (·.1)=fs.map (·.1):=by
 induction fs with
 |nil=>intro es r;replace r:=r.inv;subst r;exact⟨[],.nil,rfl⟩
 |cons p fs ih=>
  intro es r;replace r:=r.inv;induction r using gh.casesOn with
  |mk h r=>exact(by obtain⟨kvs,q,e⟩:=ih r;exact⟨(p.1,_)::kvs,.cons (strKind_is prog w p.1 _) rfl q,congrArg (p.1::·) e⟩)
theorem Pz{K:Str→Value→Prop}(hK:∀x v,K x v→∃t,v=.str x t){fs:ai}:∀{kvs:List (Str×Value)} {xs:LV},kvs.map (·.1)=fs.map (·.1)→xs.length=kvs.length→
  (∀(j:Nat) (v:Value),xs[j]? =some v→∃(k:Str) (x:Value),kvs[j]? =some (k,x)∧K k v)→aG I P σ n (Dz fs) xs:=by
 induction fs with
 |nil=>
  intro kvs xs h1 h2 _;rw[List.map_eq_nil_iff.mp h1]at h2;rw[List.length_eq_zero_iff.mp h2];exact .nil
 |cons p fs ih=>
  intro kvs xs h1 h2 h3;induction kvs using qh with
  |nil=>exact absurd (congrArg List.length h1).symm (qS _)
  |cons q kvs=>
   induction xs using qh with
   |nil=>exact absurd h2.symm (qS _)
   |cons x xs=>
    obtain⟨kk,xx,e3,e4⟩:=h3 0 x rfl;obtain⟨t,e5⟩:=hK _ _ e4;obtain⟨e6,e7⟩:=List.cons.inj h1;rw[e5,show kk=p.1 from(congrArg Prod.fst (qc e3)).symm.trans e6];exact .cons (.str _ _) (ih e7 (Nat.succ.inj h2) fun j=>h3 (j+1))
theorem EV.aa1(e:EV cx I σ st s Q (.loc st.length,st++[ao]))(H:au cx k A I σ st s)(kp:∀b o,s.heap.get? b=some o→s'.heap.get? b=some o)(g:s'.heap.get? s.heap.objs.size=some o)(sm:bw s s')
  (r:dw I cx.P (gj σ st.length s.heap.objs.size) (st.length+1) ao o):Q (.ref s.heap.objs.size) s':=
 e I _ _ s' (aM.Bu H.rel kp (dD _) g r) sm (by
  have:=aq.loc (I:=I) (P:=cx.P) (σ:=gj σ st.length s.heap.objs.size) (n₀:=(st++[ao]).length) st.length (by simp);rw[eH]at this;exact this)
theorem Jk{y:Value}{fs:List (Str×V)}(H:au cx k A I σ st s)(hv:aq I cx.P σ st.length v y)(e:oH st v=some fs)(g:Good cx.S cx.pre (CF st fs) (EV cx I σ st s Q)):wpAny cx.M A (call (.type "list") [y]) Q E s:=by
 obtain⟨CG,hl,g⟩:=bA g;obtain⟨a,es,ep,rfl,ga,rr,rN⟩:=xO H.rel hv e;obtain⟨kvs,hp,hk⟩:=Mq cx.w rfl cx.prog rr;have e2:kvs.length=fs.length:=(List.length_map ..).symm.trans ((congrArg List.length hk).trans (List.length_map ..));have nd:(kvs.map (·.1)).Nodup:=hk▸EA fs▸sN CG;refine kdl_call (kdl_dict (knd:=strKind cx.prog cx.w) (kvs:=kvs) (ep:=ep) (rN H.base)) H.fit.handled ⟨_,es.toArray,ga,⟨rfl,rfl,rfl⟩,rfl,p6 cx.w rfl cx.prog rr,hp,nd⟩ (by rw[sizeLine_eq];lia) fun h' tk aa2 c' kp gn ha=> ?_;have rl:aG I cx.P σ st.length (Dz fs) aa2.toList:=Pz (K:=fun k v=>(strKind cx.prog cx.w).is k v=true) (fun x v=>Value.isStrOf_shape) hk ((Array.length_toList ..).trans ha.1) fun j v hv=>ha.2 j v (by rw[←Array.getElem?_toList];exact hv);exact EV.aa1 g H kp gn ⟨rfl,rfl,rfl⟩ (dw.list (pre:=[]) c' (qm _) (rl.mono (Ed σ st I s.heap.objs.size)))
theorem PA(H:au cx k A I σ st s)(r:aG I cx.P σ st.length args ys)(g:Good cx.S cx.pre (Ht t args st) (EV cx I σ st s Q)):wpAny cx.M A (call (.type t.id) ys) Q E s:=by
 induction t using TY.casesOn with
 |list=>
  refine aN g fun v hv g=> ?_;rw[Uc hv]at g r;induction q:oH st v using qe with
  |none=>rw[q]at g;exact Hh (t:=.list) H r g
  |some fs=>
   rw[q]at g;obtain⟨y1,rfl,h1⟩:=r.inv1;exact Jk H h1 q g
 |_=>exact Hh H r g
theorem GH(h:zT x y):fV ev j y [] fr args st=fV ev j x [] fr args st:=by
 obtain⟨f1,f2,f3,_⟩:=h;unfold fV xU u6;rw[f1,f2,f3]
theorem Jl(K:Kept cx)(S:aU cx ev)(H:au cx (k+1) A I σ st s)(r:aG I cx.P σ st.length args ys)(g:Good cx.S cx.pre (BH cx ev k a args st) (EV cx I σ st s Q)):wpAny cx.M A (call (.ref a) ys) Q E s:=by
 rw[BH]at g;induction ha:nL a cx.tab.asks using qd with
 |true=>rw[ha]at g;exact(by obtain⟨W,g1,g2⟩:=g;exact K ha H r g1 g2)
 |false=>
  rw[ha]at g;induction e:oh a cx.tab.fns using qe with
  |some fd=>rw[e]at g;exact wpAny_call (Ey S e H r (fun v s' q=>q) g)
  |none=>
   rw[e]at g;induction k using qk with
   |zero=>exact g.elim
   |succ k=>exact aN g fun fi hm g=>aN g fun fd e g=>Ue S hm e H r g
theorem PB(K:Kept cx)(S:aU cx ev)(H:au cx k A I σ st s)(rf:aq I cx.P σ st.length f y)(r:aG I cx.P σ st.length args ys)
  (g:Good cx.S cx.pre (RT cx ev k f args st) (EV cx I σ st s Q)):wpAny cx.M A (call y ys) Q E s:=by
 replace rf:=rf.inv;induction f using V.casesOn with
 |bi b=>subst rf;exact TJ H r g
 |ty t=>subst rf;exact PA H r g
 |top a=>
  subst rf;induction k using qk with
  |zero=>exact g.elim
  |succ k=>exact Jl K S H r g
 |jy fd free=>
  induction k using qk with
  |zero=>exact g.elim
  |succ k=>
   induction rf using rG.casesOn with
   |mk h hc hd hf Cs DU DV hq rc=>
    have g:Good cx.S cx.pre (fV ev k fd [] free args st) _:=g;rw[←GH hf]at g;exact wpAny_call (RS S H ⟨⟨_,h,hd⟩,⟨_,_,_,_,Cs,DU,DV,hq⟩,hf.2.2.2.1,hf.2.2.2.2.1,rc,.inl ⟨hf.2.2.2.2.2.1,rfl⟩⟩ r (fun v s' q=>q) g)
 |_=>exact g.elim
end
noncomputable def oK(cx:Cx)(f:V):Bool:=match f with
 |.bi _=>true
 |.ty _=>true
 |.top a=>nL a cx.tab.T.keeps
 |.jy _ _=>true
 |_=>false
noncomputable def ic:List Expr→Bool
 |[]=>true
 |e::r=>eW (uq e) (ic r)
noncomputable def BJ(cx:Cx)(ev:Ev)(k:Nat)(fe:FE)(m:ai)(st:St)(func:Expr)(args:List Expr):aA (V×St):=dQ (ic args) ((ev.e k fe m st func).bind fun p=>dQ (oK cx p.1) ((wC ev k fe m args p.2).bind fun q=>ev.c k p.1 q.1 q.2))
noncomputable def Hu(cx:Cx)(ev:Ev)(k:Nat)(fe:FE)(m:ai)(st:St)(o:Expr)(name:Str)(jA pos:Pos)(args:List Expr):aA (V×St):=dQ (ic args) (dQ (ur o) (dQ (Nat.beq jA.endLine pos.line) (dQ (Nat.blt (len args) 20)
 ((ev.e k fe m st o).bind fun p=>cy (oG cx p.2 p.1 name) fun f=>dQ (oK cx f.1) ((wC ev k fe m args p.2).bind fun q=>ev.c k f.1 (f.2++q.1) q.2)))))
noncomputable def Mr(cx:Cx)(ev:Ev)(k:Nat)(fe:FE)(m:ai)(st:St)(func:Expr)(args:List Expr)(Wh:List Keyword)(pos:Pos):aA (V×St):=dQ (eB Wh) (match func with
 |.Attribute o name jA=>Hu cx ev k fe m st o name jA pos args
 |.Name a b=>BJ cx ev k fe m st (.Name a b) args
 |.Subscript a b c=>BJ cx ev k fe m st (.Subscript a b c) args
 |_=>.bad)
section
variable{st:St}
theorem oV(h:ic es=true):(backTo pos (starEach es env)).any (·.1)=false:=by
 induction es with
 |nil=>rfl
 |cons e es ih=>rw[eX es env (bk h).1];exact ih (bk h).2
theorem yK(h:ic es=true):(backTo pos (starEach es env)).all (fun x=> !x.1)=true:=by
 induction es with
 |nil=>rfl
 |cons e es ih=>rw[eX es env (bk h).1];exact ih (bk h).2
theorem EC(h:ic es=true):backTo pos (starEach es env)=[]∨∃x r,backTo pos (starEach es env)=(false,x)::r:=by
 induction es using qh with
 |nil=>exact .inl rfl
 |cons e es=>rw[eX es env (bk h).1];exact .inr ⟨_,_,rfl⟩
theorem oW(hp:ic es=true)(h:wpAny M A (spliced (backTo pos (starEach es env))) (fun vs s'=>R ⟨vs,[]⟩ s') E s):
  wpAny M A (evalArgs f true (backTo pos (starEach es env)) []) R E s:=by
 rcases EC (env:=env) (pos:=pos) hp with q|⟨x,r,q⟩
 ·rw[q]at h⊢;unfold evalArgs;show wpAny M A (spliced []>>=_) R E s;refine wpAny_bind (wpAny_mono h (fun vs s' h'=> ?_) fun _ _ x=>x);refine wpAny_holding ?_;exact wpAny_bind (wpAny_pure (wpAny_bind (wpAny_pure (wpAny_pure h'))))
 ·rw[q]at h⊢;exact evalArgs_plain h
theorem Ms(B:iJ cx I)(hc:oK cx f=true)(rf:aq I cx.P σ n f y)(hi:∀b o,I b=some o→h.get? b=some o):∃kk,(kk=Keeper.frame∨kk=Keeper.machine∨kk=Keeper.boundFrame)∧Looks cx.M h (keeperOf y) kk:=by
 replace rf:=rf.inv;induction f using V.casesOn with
 |bi=>subst rf;exact⟨.machine,.inr (.inl rfl),Looks.of_pure rfl⟩
 |ty=>subst rf;exact⟨.machine,.inr (.inl rfl),Looks.of_pure rfl⟩
 |top a=>subst rf;exact keeps_K (List.all_eq_true.mp B.tabs.keeps _ (uX hc)) h (B.zU hi)
 |jy=>induction rf using rG.casesOn with|mk h1 wG hd=>exact⟨.frame,.inl rfl,(Looks.ld (part:=none) (hi _ _ h1)).andThen (hd.symm▸.now)⟩
 |_=>exact ft hc
theorem yL(S:aU cx ev)(hp:ic es=true)(H:au cx k A I σ st s)(l:av cx.P fe m env I σ st.length s.heap)
  (rf:aq I cx.P σ st.length f y)(ru:aG I cx.P σ st.length us zs)(g:Good cx.S cx.pre (dQ (oK cx f) ((wC ev k fe m es st).bind fun q=>ev.c k f (us++q.1) q.2)) (EV cx I σ st s Q)):
  wpAny cx.M A (callWith pos y zs (backTo pos (starEach es env)) []) Q E s:=by
 obtain⟨hc,g⟩:=bA g;refine callWith_of (P:=fun h=>∀b o,I b=some o→h.get? b=some o) (by rw[oV hp];rfl) (fun h=>Ms H.base hc rf) ?_;exact oW hp (Dy S H l g fun bG aZ aX s₁ vs ys aV aO aY bD b9 aQ=>⟨fun b o e=>aY.rel.sub _ _ (aV.le.i _ _ e),S.c aY (rf.mono aV.le) ((ru.mono aV.le).append b9) (Good.mono (fun v gv=>EV.into gv aV aO) aQ)⟩)
theorem ED(S:aU cx ev)(he:eval (.Call func args [] pos) env=(do callWith pos (←eval func env) [] (backTo pos (starEach args env)) (backToKw pos (keywordEach [] env))))
  (H:au cx k A I σ st s)(l:av cx.P fe m env I σ st.length s.heap)(g:Good cx.S cx.pre (BJ cx ev k fe m st func args) (EV cx I σ st s Q)):wpAny cx.M A (eval (.Call func args [] pos) env) Q E s:=by
 obtain⟨hp,g⟩:=bA g;exact Call_ (S.ee H l g fun bG aZ aX s₁ jk iY aV aO aY bD b9 aQ=>yL S (us:=[]) hp aY bD b9 .nil (Good.mono (fun v gv=>EV.into gv aV aO) aQ)) he
theorem GI(hp:ic args=true)(hl:Nat.blt (len args) 20=true):methodCallForm (args.length+([]:List Keyword).length) (backTo pos (starEach args env)) (backToKw pos (keywordEach [] env))=true:=by
 have:=lP hl;rw[methodCallForm,yK hp];show(true&&true&&decide (args.length+0+0<30))=true;rw[decide_eq_true (by exact wg ‹_›)];rfl
theorem Jm(hl:Nat.beq jA.endLine pos.line=true):methodCallPos true o env jA pos=pure pos:=by
 unfold methodCallPos;rw[qt hl];simp
theorem PC(S:aU cx ev)(H:au cx k A I σ st s)(l:av cx.P fe m env I σ st.length s.heap)(g:Good cx.S cx.pre (Hu cx ev k fe m st o name jA pos args) (EV cx I σ st s Q)):
  wpAny cx.M A (eval (.Call (.Attribute o name jA) args [] pos) env) Q E s:=by
 obtain⟨hp,g⟩:=bA g;obtain⟨hn,g⟩:=bA g;obtain⟨hl,g⟩:=bA g;obtain⟨ly,g⟩:=bA g;rw[arm_eval_Call,p8 hn];refine wpAny_bind (S.ee H l g fun bG aZ aX s₁ jk iY aV aO aY bD b9 aQ=>wpAny_bind (wpAny_standAt (aN aQ fun f hf aQ=> ?_)));rw[methodCall,GI hp ly];exact wpAny_bind (wpAny_holding (zm aY b9 hf fun z zs rz EE t=>wpAny_bind (wpAny_of_eq (Jm hl)
  (yL S (s:={s₁ with toks:=t}) hp ⟨aY.fit,aY.base,aY.rel⟩ bD rz EE (Good.mono (fun v gv=>EV.into (s':={s₁ with toks:=t}) gv aV aO) aQ)))))
theorem Ug(S:aU cx ev)(H:au cx k A I σ st s)(l:av cx.P fe m env I σ st.length s.heap)(g:Good cx.S cx.pre (Mr cx ev k fe m st func args Wh pos) (EV cx I σ st s Q)):
  wpAny cx.M A (eval (.Call func args Wh pos) env) Q E s:=by
 obtain⟨h0,g⟩:=bA g;obtain rfl:=cH h0;induction func using PySem.Expr.casesOn with
 |Attribute=>exact PC S H l g
 |Name=>exact ED S rfl H l g
 |Subscript=>exact ED S rfl H l g
 |_=>exact g.elim
end
noncomputable def nN{α:Type}(t:Sem α):Option α:=match t with
 |.pure a=>some a
 |_=>none
theorem lz{α:Type}{t:Sem α}{a:α}(h:nN t=some a):t=pure a:=by
 induction t using PySem.Sem.casesOn with
 |pure x=>exact congrArg Sem.pure (qc h)
 |_=>exact nn h
noncomputable def iK(sc:Scope):Env:=newEnv sc 0 0 [] "" none .none none 0
section
variable{st:St}
theorem Al(l:av P fe m env I σ n h):swappedStores ts v env=swappedStores ts v (iK fe.scope):=by
 rw[←l.scope];rfl
theorem rR(l:av P fe m env I σ n h):swapsWithSole ts v j env=swapsWithSole ts v j (iK fe.scope):=by
 rw[←l.scope];rcases ts with _|⟨t,_|⟨u,r⟩⟩<;>rfl
theorem EF(l:av P fe m env I σ n h):swapsWith v t j env=swapsWith v t j (iK fe.scope):=by
 rw[←l.scope];rfl
noncomputable def pD(cs:Str→Bool):List Str→List V→ai→Option ai
 |[],vs,m=>fH (eB vs) (some m)
 |n::ns,vs,m=>cC (O5 vs) fun p=>fH (cs n) (pD cs ns p.2 (put n p.1 m))
noncomputable abbrev EG(fe:FE):List Str→List V→ai→Option ai:=pD (rL fe)
def Stores(cx:Cx)(k:Nat)(A:Around)(I:IM)(σ:Nat→Addr)(st:St)(E:dS)(fe:FE)(env:Env)(cs:Str→Bool)(X:Addr→Prop):Prop:=
 ∀{x:Str} {v:V} {y:Value} {m:ai} {s:Shared} {Q:Unit→SP},au cx k A I σ st s→av cx.P fe m env I σ st.length s.heap→cs x=true→aq I cx.P σ st.length v y→
  (∀s',aM cx.P X I σ st.length s.heap I σ st s'.heap→bw s s'→av cx.P fe (put x v m) env I σ st.length s'.heap→Q () s')→wpAny cx.M A (storeName env x y) Q E s
variable{X:Addr→Prop}
theorem wH(sn:Stores cx k A I σ st E fe env cs X){as:List (Str×(Value→Sem Unit))}:∀{vs:List V} {ys:List Value} {m m':ai} {s:Shared} {Q:Unit→Shared→Prop},
  (∀p∈as,∀y {s:Shared} {R:Unit→Shared→Prop},wpAny cx.M A (storeName env p.1 y) R E s→wpAny cx.M A (p.2 y) R E s)→
  au cx k A I σ st s→av cx.P fe m env I σ st.length s.heap→aG I cx.P σ st.length vs ys→pD cs (as.map (·.1)) vs m=some m'→
  (∀s',aM cx.P X I σ st.length s.heap I σ st s'.heap→bw s s'→av cx.P fe m' env I σ st.length s'.heap→Q () s')→wpAny cx.M A (assignInOrder (as.map (·.2)) ys) Q E s:=by
 induction as with
 |nil=>
  intro vs ys m m' s Q _ H l r e h;rw[cH (cP e)]at r;replace r:=r.inv;subst r;exact wpAny_assignInOrder_none (h s (aM.refl H.rel) (bw.refl s) (qc (cW e)▸l))
 |cons a as ih=>
  intro vs ys m m' s Q hf H l r e h;refine aK e fun p hp e=> ?_;rw[By hp]at r;replace r:=r.inv;induction r using dP.casesOn with
  |mk hv r=>exact wpAny_assignInOrder_more (hf a (qi) _ (sn H l (cP e) hv fun s₁ aV aO bD=>ih (fun p hp=>hf p (qj _ hp)) (H.go aV) bD r (cW e) fun br bQ cJ dX=>h br (aV.trans bQ) (aO.trans cJ) dX))
theorem GJ{ns:List Str}{vs:List V}{ys:List Value}
  (hf:∀n y {s:Shared} {R:Unit→Shared→Prop},wpAny cx.M A (storeName env n y) R E s→wpAny cx.M A (f n y) R E s)
  (H:au cx k A I σ st s)(l:av cx.P fe m env I σ st.length s.heap)(r:aG I cx.P σ st.length vs ys)(e:EG fe ns vs m=some m')
  (h:∀s',aM cx.P (aF env) I σ st.length s.heap I σ st s'.heap→bw s s'→av cx.P fe m' env I σ st.length s'.heap→Q () s'):wpAny cx.M A (assignInOrder (ns.map f) ys) Q E s:=by
 have:=wH (X:=aF env) (fun H l e r h=>p5 H l e r h) (as:=ns.map fun n=>(n,f n)) (Q:=Q) (E:=E) (A:=A) (env:=env) (fun p hp y {s R} w=>by obtain⟨n,_,rfl⟩:=List.mem_map.mp hp;exact hf n y w) H l r (by rw[List.map_map];exact(List.map_id' ns).symm▸e) h
 rwa [List.map_map]at this
noncomputable def Am(e:Expr):Option Str:=match e with
 |.Name x _=>some x
 |_=>none
theorem CH(h:Am e=some x):∃p,e=.Name x p:=by
 induction e using PySem.Expr.casesOn with
 |Name y p=>exact⟨p,qc h▸rfl⟩
 |_=>exact nn h
noncomputable def zx:List Expr→Option (List Str)
 |[]=>some []
 |e::r=>cC (Am e) fun x=>cC (zx r) fun l=>some (x::l)
theorem zy:∀{ns:List Str},zx es=some ns→∃ps:List Pos,ps.length=ns.length∧(assignEach es env).length=ns.length∧(assignEach es env).findIdx? (·.1)=none∧
  (assignEach es env).map (·.2)=(ns.zip ps).map (fun q=>assign (.Name q.1 q.2) env):=by
 induction es with
 |nil=>intro ns e;cases qc e;exact⟨[],rfl,rfl,rfl,rfl⟩
 |cons e es ih=>
  intro ns h;refine aK h fun x hx g=>aK g fun l hl g=> ?_;obtain⟨ps,h1,h2,h3,h4⟩:=ih hl;obtain⟨p,rfl⟩:=CH hx;rw[←qc g];refine⟨p::ps,congrArg Nat.succ h1,congrArg Nat.succ h2, ?_,congrArg (assign (.Name x p) env::·) h4⟩;show((false,assign (.Name x p) env)::assignEach es env).findIdx? (·.1)=none;rw[List.findIdx?_cons];simp[h3]
noncomputable def u7(cs:Str→Bool)(t:Expr)(v:V)(m:ai):Option ai:=match t with
 |.Name x _=>fH (cs x) (some (put x v m))
 |.Tuple ts _ _=>cC (zx ts) fun ns=>cC (Dw v) fun vs=>pD cs ns vs m
 |_=>none
noncomputable abbrev iF(fe:FE):Expr→V→ai→Option ai:=u7 (rL fe)
theorem wI{ns:List Str}:∀{vs:List V} {m m':ai},pD cs ns vs m=some m'→ns.length=vs.length:=by
 induction ns with
 |nil=>intro vs m m' e;rw[cH (cP e)];rfl
 |cons n ns ih=>intro vs m m' e;exact aK e fun p hp e=>by rw[By hp];exact congrArg Nat.succ (ih (cW e))
theorem Ao(sn:Stores cx k A I σ st E fe env cs X){y:Value}{m':ai}{Q:Unit→Shared→Prop}(H:au cx k A I σ st s)(l:av cx.P fe m env I σ st.length s.heap)(hv:aq I cx.P σ st.length v y)(e:u7 cs t v m=some m')
  (h:∀s',aM cx.P X I σ st.length s.heap I σ st s'.heap→bw s s'→av cx.P fe m' env I σ st.length s'.heap→Q () s'):wpAny cx.M A (assign t env y) Q E s:=by
 induction t using PySem.Expr.casesOn with
 |Name x p=>exact wpAny_assign_Name (sn H l (cP e) hv (qc (cW e)▸h))
 |Tuple ts c p=>
  refine aK e fun ns ux e=>aK e fun vs L7 e=> ?_;have q:=Ej hv L7;clear hv;induction q using iW.casesOn with
  |mk g r=>
   rename_i a n xs
   obtain⟨ps,h1,h2,h3,h5⟩:=zy (env:=env) ux;refine wpAny_assign_Tuple (items:=xs.toArray) H.fit.handled ⟨_,H.rel.sub _ _ g,rfl,n,rfl⟩ (by rw[h2,wI e,List.size_toArray,r.length]) h3 fun h' hx=> ?_;have ex:=aM.grow H.rel (h':=h') fun b o e=>hx b o (Nat.ne_of_lt (Heap.lt_size e)) e;have H':au cx k A I σ st {s with heap:=h'}:=H.go (s':={s with heap:=h'}) ex;have en:((ns.zip ps).map fun q=>(q.1,assign (.Name q.1 q.2) env)).map (·.1)=ns:=by rw[List.map_map];exact List.map_fst_zip (qA h1.symm)
   have:=wH sn (as:=(ns.zip ps).map fun q=>(q.1,assign (.Name q.1 q.2) env)) (Q:=Q) (s:={s with heap:=h'}) (fun p hp y {s R} w=>by obtain⟨q,_,rfl⟩:=List.mem_map.mp hp;exact wpAny_assign_Name w) H' (l.ext ex) r (en.symm▸e) fun br bQ cJ dX=>h br ((ex.weaken fun _ q=>q.elim).trans bQ) cJ dX;rw[h5]
   rwa [List.map_map]at this
 |_=>exact nn e
theorem pF(H:au cx k A I σ st s)(l:av cx.P fe m env I σ st.length s.heap)(hv:aq I cx.P σ st.length v y)(e:iF fe t v m=some m')
  (h:∀s',aM cx.P (aF env) I σ st.length s.heap I σ st s'.heap→bw s s'→av cx.P fe m' env I σ st.length s'.heap→Q () s'):wpAny cx.M A (assign t env y) Q E s:=Ao (fun H l e r h=>p5 H l e r h) H l hv e h
end
noncomputable abbrev iw:=aA ((Out×ai)×St)
noncomputable def rS(o:Option Bool):Bool:=match o with
 |some b=>i8 b
 |none=>false
theorem qT(h:rS o=true):o=some false:=by
 induction o using qe with
 |none=>exact ft h
 |some b=>induction b using qd with
  |true=>exact ft h
  |false=>rfl
noncomputable def Jo{α:Type}:List α→List α→List α
 |[],acc=>acc
 |x::l,acc=>Jo l (x::acc)
theorem Hv{α:Type}(l:List α):∀acc:List α,Jo l acc=l.reverse++acc:=by
 induction l with
 |nil=>exact fun _=>rfl
 |cons x l ih=>exact fun acc=>(ih _).trans (by rw[List.reverse_cons,List.append_assoc];rfl)
noncomputable def Mt(ev:Ev)(k:Nat)(fe:FE)(m:ai)(st:St)(e:Expr)(pos:Pos):iw:=dQ (rS (nN (swapsWith e none pos.line (iK fe.scope)))) ((ev.e k fe m st e).bind fun p=>.ok ((.next,m),p.2))
noncomputable def RU(ev:Ev)(k:Nat)(fe:FE)(m:ai)(st:St)(e:Option Expr):iw:=match e with
 |some e=>(ev.e k fe m st e).bind fun p=>.ok ((.ret p.1,m),p.2)
 |none=>.ok ((.ret .none,m),st)
noncomputable def Wi(ev:Ev)(k:Nat)(fe:FE)(m:ai)(st:St)(t:Expr)(a b:List Stmt):iw:=
 (ev.t k fe m st t).bind fun p=>match p.1 with
  |true=>ev.b k fe m p.2 a
  |false=>ev.b k fe m p.2 b
noncomputable def xV(cx:Cx)(ev:Ev)(k:Nat)(fe:FE)(m:ai)(st:St)(t:Expr)(v:V):iw:=match t with
 |.Name a b=>cy (iF fe (.Name a b) v m) fun m'=>.ok ((.next,m'),st)
 |.Tuple a b c=>cy (iF fe (.Tuple a b c) v m) fun m'=>.ok ((.next,m'),st)
 |.Attribute o a _=>(ev.e k fe m st o).bind fun p=>cy (zo cx p.2 p.1 a v) fun st'=>.ok ((.next,m),st')
 |.Subscript o i _=>(ev.e k fe m st o).bind fun p=>(ev.e k fe m p.2 i).bind fun q=>cy (Ea q.2 p.1 q.1 v) fun st'=>.ok ((.next,m),st')
 |_=>.bad
noncomputable def EH(fe:FE)(m:ai)(ns:List Str)(v:V)(st:St):iw:=cy (Dw v) fun vs=>cy (EG fe (Jo ns []) (Jo vs []) m) fun m'=>.ok ((.next,m'),st)
noncomputable def zz(cx:Cx)(ev:Ev)(k:Nat)(fe:FE)(m:ai)(st:St)(ts:List Expr)(v:Expr)(pos:Pos):iw:=cy (a1 ts) fun t=>dQ (rS (nN (swapsWithSole [t] v pos.line (iK fe.scope)))) (cy (nN (swappedStores [t] v (iK fe.scope))) fun o=>
 (ev.e k fe m st v).bind fun p=>match o with
  |none=>xV cx ev k fe m p.2 t p.1
  |some ns=>EH fe m ns p.1 p.2)
noncomputable def Zg(op:Operator)(a b:V):Option V:=match op with
 |.Add=>cC (Cy a) fun p=>cC (Cy b) fun q=>some (z8 (Cz p.1 q.1) (p.2+q.2))
 |_=>none
noncomputable def RW(cx:Cx)(ev:Ev)(k:Nat)(fe:FE)(m:ai)(st:St)(t:Expr)(op:Operator)(v:Expr):iw:=match t with
 |.Attribute o a _=>(ev.e k fe m st o).bind fun p=>cy (zh cx p.2 p.1 a) fun CI=>(ev.e k fe m p.2 v).bind fun q=>cy (Zg op CI q.1) fun r=>cy (zo cx q.2 p.1 a r) fun st'=>.ok ((.next,m),st')
 |_=>.bad
section
variable{cx:Cx}{st:St}{s:Shared}
theorem EO.here(g:EO cx fe env I σ st s Q ((o,m'),st'))(x:aM cx.P (fun _=>False) I σ st.length s.heap I' af st' s'.heap)(sm:bw s s')
  (ro:rO I' cx.P af st'.length o f)(l:av cx.P fe m' env I' af st'.length s'.heap):Q f s':=g I' af f s' (x.weaken fun _ q=>q.elim) sm ⟨ro,l⟩
theorem EO.into(g:EO cx fe env I σ st s Q p)(x:aM cx.P (fun _=>False) I σ st.length s.heap I' af st' s'.heap)(sm:bw s s'):EO cx fe env I' af st' s' Q p:=
 Ends.into g (x.weaken fun _ q=>q.elim) sm
theorem EO.Zh(g:EO cx fe env I σ st s Q p)(x:aM cx.P (aF env) I σ st.length s.heap I' af st' s'.heap)(sm:bw s s'):EO cx fe env I' af st' s' Q p:=
 Ends.into g x sm
theorem Hw(l:av cx.P fe m env I σ st.length s.heap):interactive env=false:=by
 unfold interactive;rw[l.scope,l.kind];rfl
theorem Uh(S:aU cx ev)(H:au cx k A I σ st s)(l:av cx.P fe m env I σ st.length s.heap)(g:Good cx.S cx.pre (Mt ev k fe m st e pos) (EO cx fe env I σ st s Q)):
  wpAny cx.M A (exec (.Expr e pos) env) Q E s:=by
 obtain⟨hs,g⟩:=bA g;refine wpAny_Expr_any (S.ee H l g fun bG aZ aX s₁ jk iY aV aO aY bD b9 aQ=>EO.here aQ aV aO .next bD) (Hw l) ?_;rw[EF l];exact lz (qT hs)
theorem Wj(S:aU cx ev)(H:au cx k A I σ st s)(l:av cx.P fe m env I σ st.length s.heap)(g:Good cx.S cx.pre (RU ev k fe m st e) (EO cx fe env I σ st s Q)):
  wpAny cx.M A (exec (.Return e pos) env) Q E s:=by
 induction e using qe with
 |some e=>exact wpAny_Return_some (S.ee H l g fun bG aZ aX s₁ jk iY aV aO aY bD b9 aQ=>EO.here aQ aV aO (.ret b9) bD)
 |none=>exact wpAny_Return_none (EO.here g (aM.refl H.rel) (bw.refl s) (.ret .none) l)
theorem Zi(S:aU cx ev)(H:au cx k A I σ st s)(l:av cx.P fe m env I σ st.length s.heap)(g:Good cx.S cx.pre (Wi ev k fe m st t a b) (EO cx fe env I σ st s Q)):
  wpAny cx.M A (exec (.If t a b pos) env) Q E s:=by
 refine wpAny_If (S.tt H l g fun bG aZ aX s₁ c aV aO aY bD aQ=> ?_);induction c using qd with
 |true=>exact S.b aY bD (Good.mono (fun p gp=>EO.into gp aV aO) aQ)
 |false=>exact S.b aY bD (Good.mono (fun p gp=>EO.into gp aV aO) aQ)
set_option backward.match.sparseCases true in
theorem Jp(o i:Expr)(pos:Pos)(env:Env)(y:Value):∃rl:Value→Value→List Value,assign (.Subscript o i pos) env y=(do
   let ov ←holding [y] (eval o env)
   let iv ←holding [y,ov] (eval i env)
   standAt pos
   holding [y,ov,iv] (setItem ov iv y)
   release (rl ov iv) []):=⟨fun ov iv=>match i with|.Slice _ _ none _=>[iv,y,ov]|_=>[y,ov,iv],rfl⟩
theorem Mu(S:aU cx ev)(H:au cx k A I σ st s)(l:av cx.P fe m env I σ st.length s.heap)(hv:aq I cx.P σ st.length v y)(g:Good cx.S cx.pre (xV cx ev k fe m st t v) (EO cx fe env I σ st s Q)):
  wpAny cx.M A (assign t env y) (fun _=>Q .next) E s:=by
 induction t using PySem.Expr.casesOn with
 |Name=>exact aN g fun m' e g=>pF H l hv e fun s' x sm l'=>g I σ _ s' x sm ⟨.next,l'⟩
 |Tuple=>exact aN g fun m' e g=>pF H l hv e fun s' x sm l'=>g I σ _ s' x sm ⟨.next,l'⟩
 |Attribute o a pos=>
  rw[show assign (.Attribute o a pos) env y=(do
   let ov ←holding [y] (eval o env)
   standAt pos.atName
   holding [y,ov] (setAttr ov a y)
   release [y,ov] [])from rfl]
  refine wpAny_bind (wpAny_holding (S.ee H l g fun bG aZ aX s₁ jk iY aV aO aY bD b9 aQ=>wpAny_bind (wpAny_standAt (wpAny_bind (wpAny_holding ?_)))));exact aN aQ fun st' yH aQ=>D4 aY b9 (hv.mono aV.le) yH fun br bQ cJ _=>wpAny_release (EO.here aQ (aV.trans bQ) (aO.trans cJ) .next (bD.ext bQ))
 |Subscript o i pos=>
  obtain⟨rl,e⟩:=Jp o i pos env y;rw[e];refine wpAny_bind (wpAny_holding (S.ee H l g fun bG aZ aX s₁ jk iY aV aO aY bD b9 aQ=>wpAny_bind (wpAny_holding (S.ee aY bD aQ fun dj bH bW br En Eo bQ cJ cO dX jQ fL=>wpAny_bind (wpAny_standAt (wpAny_bind (wpAny_holding ?_)))))));exact aN fL fun st' yH fL=>O8 cO (b9.mono bQ.le) jQ ((hv.mono aV.le).mono bQ.le) yH fun jR jm qU=>wpAny_release (EO.here fL ((aV.trans bQ).trans jm) ((aO.trans cJ).trans qU) .next (dX.ext jm))
 |_=>exact g.elim
theorem aG.reverse:∀{xs:LV},aG I P σ n vs xs→aG I P σ n vs.reverse xs.reverse:=by
 induction vs with
 |nil=>intro xs h;replace h:=h.inv;subst h;exact .nil
 |cons a vs ih=>
  intro xs h;replace h:=h.inv;induction h using dP.casesOn with|mk h r=>rw[List.reverse_cons,List.reverse_cons];exact(ih r).append (.cons h .nil)
theorem GK{ns:List Str}(H:au cx k A I σ st s)(l:av cx.P fe m env I σ st.length s.heap)(r:aq I cx.P σ st.length v y)(g:Good cx.S cx.pre (EH fe m ns v st) (EO cx fe env I σ st s Q)):
  wpAny cx.M A (do
   rule "assign.swapped-stores"
   let items ←unpackItems y ns.length none
   assignInOrder (ns.reverse.map fun n=>bindName env n) items.reverse
   pure .next) Q E s:=by
 refine aN g fun vs L7 g=>aN g fun m' hm g=> ?_;replace r:=Ej r L7;induction r using iW.casesOn with
 |mk gg rr=>
  rename_i a n xs
  have hl:=wI hm;rw[Hv,Hv,List.append_nil,List.append_nil]at hm hl;rw[List.length_reverse,List.length_reverse,←rr.length]at hl;rw[hl.trans List.size_toArray.symm];refine wpAny_bind (wpAny_rule (wpAny_bind (wpAny_unpackItems_tuple (items:=xs.toArray) H.fit.handled ⟨_,H.rel.sub _ _ gg,rfl,n,rfl⟩ fun h' hx=>wpAny_bind ?_)));have ex:=aM.grow H.rel (h':=h') fun b o e=>hx b o (Nat.ne_of_lt (Heap.lt_size e)) e;exact GJ (f:=fun n=>bindName env n) (fun n y _ _ hh=>wpAny_bindName hh) (H.go (s':={s with heap:=h'}) ex) (l.ext ex) (by simpa using rr.reverse) hm fun br bQ cJ dX=>wpAny_pure (g I σ _ br ((ex.weaken (fun _ q=>q.elim)).trans bQ) cJ ⟨.next,dX⟩)
theorem BK(h:∀e a,t≠.Starred e a):(assignEach [t] env).map (·.2)=[assign t env]:=by
 induction t using PySem.Expr.casesOn with
 |Starred e a=>exact absurd rfl (h e a)
 |_=>rfl
theorem EI(S:aU cx ev)(H:au cx k A I σ st s)(l:av cx.P fe m env I σ st.length s.heap)(hs:swapsWithSole [t] v pos.line env=pure false)(ho:swappedStores [t] v env=pure none)
  (g:Good cx.S cx.pre ((ev.e k fe m st v).bind fun p=>xV cx ev k fe m p.2 t p.1) (EO cx fe env I σ st s Q)):wpAny cx.M A (exec (.Assign [t] v pos) env) Q E s:=
 wpAny_Assign_stores (S.ee H l g fun bG aZ aX s₁ jk iY aV aO aY bD b9 aQ=>by
  rw[BK fun e a q=>by rw[q]at aQ;exact aQ];exact Mu S aY bD b9 (Good.mono (fun p gp=>EO.into gp aV aO) aQ)) hs ho
theorem GN{ns:List Str}{pos:Pos}(S:aU cx ev)(H:au cx k A I σ st s)(l:av cx.P fe m env I σ st.length s.heap)(hs:swapsWithSole [t] v pos.line env=pure false)(ho:swappedStores [t] v env=pure (some ns))
  (g:Good cx.S cx.pre ((ev.e k fe m st v).bind fun p=>EH fe m ns p.1 p.2) (EO cx fe env I σ st s Q)):wpAny cx.M A (exec (.Assign [t] v pos) env) Q E s:=by
 rw[exec_Assign_arm];refine wpAny_bind (wpAny_standAt ?_);rw[hs];refine wpAny_bind (wpAny_pure ?_);rw[if_neg qE];refine wpAny_bind (S.ee H l g fun bG aZ aX s₁ jk iY aV aO aY bD b9 aQ=> ?_);rw[ho];exact wpAny_bind (wpAny_pure (GK aY bD b9 (Good.mono (fun p gp=>EO.into gp aV aO) aQ)))
theorem CJ{v:Expr}{pos:Pos}(S:aU cx ev)(H:au cx k A I σ st s)(l:av cx.P fe m env I σ st.length s.heap)(g:Good cx.S cx.pre (zz cx ev k fe m st ts v pos) (EO cx fe env I σ st s Q)):
  wpAny cx.M A (exec (.Assign ts v pos) env) Q E s:=by
 refine aN g fun t ht g=> ?_;obtain⟨hs,g⟩:=bA g;refine aN g fun o ho g=> ?_;have hs:=(rR l).trans (lz (qT hs));have ho:=(Al l).trans (lz ho);rw[Ad ht];induction o using qe with
 |none=>exact EI S H l hs ho g
 |some ns=>exact GN S H l hs ho g
theorem Wk(S:aU cx ev)(H:au cx k A I σ st s)(l:av cx.P fe m env I σ st.length s.heap)(g:Good cx.S cx.pre (RW cx ev k fe m st t op v) (EO cx fe env I σ st s Q)):
  wpAny cx.M A (exec (.AugAssign t op v pos) env) Q E s:=by
 induction t using PySem.Expr.casesOn with
 |Attribute o a=>
  refine wpAny_AugAssign_AttributeAny (S.ee H l g fun bG aZ aX s₁ jk iY aV aO aY bD b9 aQ=> ?_);refine aN aQ fun CI ho aQ=>D0 aY b9 ho fun z rz=> ?_;have Zj:au cx k A bG aZ aX {s₁ with toks:=s₁.toks+1}:=⟨aY.fit,aY.base,aY.rel⟩;refine S.ee Zj bD aQ fun dj bH bW br En Eo bQ cJ cO dX jQ fL=>aN fL fun r hr EJ=>aN EJ fun st' yH EK=> ?_;induction op using PySem.Operator.casesOn with
  |Add=>
   refine aK hr fun p hp hr=>aK hr fun q hq hr=> ?_;rw[←qc hr]at yH;obtain⟨_,rfl⟩:=um rz hp;obtain⟨_,rfl⟩:=um jQ hq;exact P.iadd_int (D4 (s:={br with toks:=br.toks+1}) ⟨cO.fit,cO.base,cO.rel⟩ (b9.mono bQ.le) (ni _ _ _) yH fun jR jm qU _=>EO.here EK ((aV.trans bQ).trans jm) ((aO.trans cJ).trans qU) .next (dX.ext jm))
  |_=>exact nn hr
 |_=>exact g.elim
end
noncomputable def RX{α β:Type}(o:Option α)(f:α→β)(l:List β):List β:=match o with
 |some v=>f v::l
 |none=>l
noncomputable def gF:List Str→ai→ai
 |[],_=>[]
 |n::ns,m=>RX (lk n m) (Prod.mk n) (gF ns m)
theorem CK{m:ai}{ns:List Str}{G:Prop}(e:lk x (gF (n::ns) m)=some v)(h1:x=n→lk n m=some v→G)(h2:lk x (gF ns m)=some v→G):G:=by
 have e:lk x (RX (lk n m) (Prod.mk n) (gF ns m))=some v:=e;induction q:lk n m using qe with
 |none=>rw[q]at e;exact h2 e
 |some u=>rw[q]at e;exact jj (b:=seq x n) e (fun z e=>h1 (gA.mp z) (q.trans e)) fun _ e=>h2 e
theorem sO{m:ai}{ns:List Str}:lk x (gF ns m)=some v→lk x m=some v:=by
 induction ns with
 |nil=>exact nn
 |cons n ns ih=>exact fun e=>CK e (fun q e=>q▸e) ih
noncomputable def mC:ai→List Str
 |[]=>[]
 |p::m=>p.1::mC m
noncomputable def turned(names:List Str)(on:ai→St→iw)(p:(Out×ai)×St):iw:=match p.1.1 with
 |.next=>on (gF names p.1.2) p.2
 |.cont=>on (gF names p.1.2) p.2
 |.brk=>.ok ((.next,p.1.2),p.2)
 |.ret u=>.ok ((.ret u,p.1.2),p.2)
noncomputable def wJ(ev:Ev)(k:Nat)(fe:FE)(names:List Str)(t:Expr)(body:List Stmt)(nx:Nat→St→Option (Option V)):Nat→Nat→ai→St→iw
 |0,_,_,_=>.bad
 |f+1,i,m,st=>cy (nx i st) fun o=>match o with
  |none=>.ok ((.next,m),st)
  |some v=>cy (iF fe t v m) fun m'=>(ev.b k fe m' st body).bind (turned names (wJ ev k fe names t body nx f (Nat.succ i)))
noncomputable def EL(ev:Ev)(k:Nat)(fe:FE)(names:List Str)(t:Expr)(body:List Stmt):List V→ai→St→iw
 |[],m,st=>.ok ((.next,m),st)
 |v::vs,m,st=>cy (iF fe t v m) fun m'=>(ev.b k fe m' st body).bind (turned names (EL ev k fe names t body vs))
theorem Ui:∀{pre:List V} {m:ai} {st:St},all=pre++rest→
  wJ ev k fe names t body (fun i _=>some (di all i)) (rest.length+1) pre.length m st=EL ev k fe names t body rest m st:=by
 induction rest with
 |nil=>
  intro pre m st h;rw[wJ.eq_2,gI,h,List.append_nil,List.getElem?_eq_none (qf _)];rfl
 |cons v vs ih=>
  intro pre m st h;rw[wJ.eq_2,gI,h,qx (qf _),Nat.sub_self];refine congrArg (cy (iF fe t v m)) (funext fun m'=>congrArg (aA.bind _) (congrArg (turned names) (funext fun m=>funext fun st=> ?_)));have e:=ih (pre:=pre++[v]) (m:=m) (st:=st) (h.trans (List.append_assoc pre [v] vs).symm);rw[List.length_append,h]at e;exact e
noncomputable def forTurn(ev:Ev)(k:Nat)(fe:FE)(t:Expr)(body:List Stmt)(v:V)(m:ai)(st:St):iw:=cy (iF fe t v m) fun m'=>ev.b k fe m' st body
theorem CL:∀{m:ai} {st:St},
  Good S pre (uR (forTurn ev k fe t body) (gF names) vs m st) Q→Good S pre (EL ev k fe names t body vs m st) Q:=by
 induction vs with
 |nil=>exact fun g=>g
 |cons v vs ih=>
  intro m st g;have g:=Good.bind g;unfold forTurn at g;refine aN g fun m' e g=> ?_;show Good S pre (cy (iF fe t v m) _) Q;rw[e];refine ng.mpr (Good.mono (fun p hp=> ?_) g);obtain⟨⟨o,m₁⟩,aX⟩:=p;induction o using Out.casesOn with
  |next=>exact ih hp
  |cont=>exact ih hp
  |brk=>exact hp
  |ret u=>exact hp
def Apart(I:IM)(σ:Nat→Addr)(n:Nat)(b:Addr):Prop:=I b=none∧∀k,k<n→σ k≠b
section
variable{cx:Cx}{st:St}
theorem aM.apart(x:aM P X I σ n h I' af st' h')(hb:∃o,h.get? b=some o)(a:Apart I σ n b):Apart I' af st'.length b:=by
 obtain⟨o,ho⟩:=hb
 constructor
 ·induction q:I' b using qe with
  |none=>rfl
  |some o'=>
   rcases x.fresh b o' q with z|z
   ·rw[a.1]at z;exact nn z
   ·rw[z]at ho;exact nn ho
 ·intro j hj;by_cases q:j<n
  ·rw[x.le.s j q];exact a.2 j q
  ·intro z;have:=x.new j (qC q) hj;rw[z,ho]at this;exact ns this
theorem aM.last(x:aM P (fun b=>X b∨b=it) I σ n h I' af st' PD)(ex:∀b o,b≠it→PD.get? b=some o→h₂.get? b=some o)
  (dead:h.get? it=none)(a:Apart I' af st'.length it):aM P X I σ n h I' af st' h₂:=by
 have ne:∀b o,h.get? b=some o→b≠it:=fun b o e q=>by rw[q,dead]at e;exact nn e
 have ine:∀b o,I' b=some o→b≠it:=fun b o e q=>by rw[q,a.1]at e;exact nn e
 refine⟨x.le,x.fresh,x.new,⟨fun b o e=>ex b o (ine b o e) (x.rel.sub b o e),fun j o e=> ?_,x.rel.inj,x.rel.out⟩,fun b o e hx hk=>ex b o (ne b o e) (x.keep b o e (fun q=>q.elim hx (ne b o e)) hk),fun b o e=> ?_⟩
 ·obtain⟨ob,h1,h2⟩:=x.rel.cells j o e;exact⟨ob,ex _ _ (a.2 j (List.getElem?_eq_some_iff.mp e).1) h1,h2⟩
 ·obtain⟨o',h1⟩:=x.alive b o e;exact⟨o',ex _ _ (ne b o e) h1⟩
theorem av.Jq(l:av P fe m env I σ n h)(ex:∀b o,b≠it→h.get? b=some o→h'.get? b=some o)(hn:¬aF env it)(hc:∀v,¬h.IsCell it v):av P fe m env I σ n h':=by
 have own:∀b,aF env b→∀o,h.get? b=some o→h'.get? b=some o:=fun b ob o e=>ex b o (fun q=>hn (q▸ob)) e;refine⟨l.scope,l.kind,l.glob,l.blt, ?_,fun y v e hk=> ?_,fun y hk=> ?_,fun y v e hk=> ?_,l.apart,l.ne,l.inj⟩
 ·obtain⟨mm,⟨o,es,ep,ho,r⟩,h2⟩:=l.ns;exact⟨mm,⟨o,es,ep,own _ (.inl rfl) o ho,r⟩,h2⟩
 ·obtain⟨c,z,h1,h2,h3⟩:=l.cell y v e hk;exact⟨c,z,h1,f9 h2 (own c (.inr ⟨y,hk,h1⟩)),h3⟩
 ·obtain⟨c,z,h1,h2⟩:=l.there y hk;exact⟨c,z,h1,f9 h2 (own c (.inr ⟨y,hk,h1⟩))⟩
 ·obtain⟨c,z,h1,h2,h3,h4,h5⟩:=l.free y v e hk;exact⟨c,z,h1,f9 h2 fun o e=>ex c o (fun q=>hc _ (q▸h2)) e,h3,h4,h5⟩
theorem av.less(l:av P fe m env I σ n h)(hs:∀x v,lk x m'=some v→lk x m=some v):av P fe m' env I σ n h:=
 ⟨l.scope,l.kind,l.glob,l.blt,(by obtain⟨mm,h1,h2⟩:=l.ns;exact⟨mm,h1,fun x v e=>h2 x v (hs x v e)⟩),fun x v e=>l.cell x v (hs x v e),l.there,l.free,l.apart,l.ne,l.inj⟩
structure Walk (cx:Cx) (k:Nat) (A:Around) (it:Addr) (nx:Nat→St→Option (Option V)) (jq:Nat→Heap→Prop) (mZ:IM) (jw:Nat→Addr) (n₀:Nat):Prop where
 item:∀{i:Nat} {v:V} {s:Shared} {I:IM} {σ:Nat→Addr} {st:St} {E:Value→Shared→Prop} {Q:Option Value→Shared→Prop},nx i st=some (some v)→au cx k A I σ st s→Le mZ I jw σ n₀ st.length→jq i s.heap→
  (∀y h' t,aq I cx.P σ st.length v y→jq (i+1) h'→Heap.SameBut it s.heap h'→Q (some y) {s with heap:=h',toks:=t})→wpAny cx.M A (pyNext (.ref it)) Q E s
 done:∀{i:Nat} {s:Shared} {I:IM} {σ:Nat→Addr} {st:St} {E:Value→Shared→Prop} {Q:Option Value→Shared→Prop},nx i st=some none→au cx k A I σ st s→Le mZ I jw σ n₀ st.length→jq i s.heap→
  (∀h',Heap.ExtBut it s.heap h'→Q none {s with heap:=h'})→wpAny cx.M A (pyNext (.ref it)) Q E s
 BL:∀{i:Nat} {h h':Heap},jq i h→(∀o,h.get? it=some o→h'.get? it=some o)→jq i h'
 obj:∀{i:Nat} {h:Heap},jq i h→∃o n vs,h.get? it=some o∧o.cls=.type n∧(n="list_iterator"∨n="tuple_iterator"∨n="range_iterator")∧o.data=.fields vs
theorem Uj(ho:s.heap.get? it=some o)(hc:o.cls=.type n)(hn:n="list_iterator"∨n="tuple_iterator"∨n="range_iterator")(hd:o.data=.fields vs)(h:Q () s):
  wpAny cx.M A (letOwnedTupleGo t (.ref it) y) Q E s:=by
 have nc:(["enumerate","zip","dict_itemiterator","dict_reverseitemiterator","odict_iterator","itertools.zip_longest","itertools.pairwise"].contains n)=false:=by
  rcases hn with rfl|rfl|rfl<;>decide
 induction t using PySem.Expr.casesOn<;>first|exact wpAny_pure h|skip
 all_goals
  induction y using PySem.Value.casesOn<;>first|exact wpAny_pure h|skip
  unfold letOwnedTupleGo;refine wpAny_bind (wpAny_load ho ?_);rw[hc,hd];dsimp only;rw[nc,Bool.false_and,if_neg qE];exact wpAny_pure h
theorem av.live(l:av P fe m env I σ n h)(b:Addr)(hb:aF env b):∃o,h.get? b=some o:=by
 rcases hb with rfl|⟨y,hy,hc⟩
 ·obtain⟨mm,⟨o,_,_,ho,_⟩,_⟩:=l.ns;exact⟨o,ho⟩
 ·obtain⟨c,v,h1,o,ho,_⟩:=l.there y hy;exact qc (hc.symm.trans h1)▸⟨o,ho⟩
end
set_option genInjectivity false in
structure Hx where
 cx:Cx
 k:Nat
 A:Around
 fe:FE
 env:Env
 it:Addr
 X:Addr→Prop
 jq:Nat→Heap→Prop
 I:IM
 σ:Nat→Addr
 n:Nat
 s:Shared
structure oi (C:Hx) (nx:Nat→St→Option (Option V)):Prop where
 w:Walk C.cx C.k C.A C.it nx C.jq C.I C.σ C.n
 dead:C.s.heap.get? C.it=none
 nX:¬C.X C.it
 nO:¬aF C.env C.it
 b:iJ C.cx C.I
 fit:sL C.k C.A
structure uy (C:Hx) (i:Nat) (m:ai) (I:IM) (σ:Nat→Addr) (st:St) (s:Shared):Prop where
 x:aM C.cx.P (fun b=>C.X b∨b=C.it) C.I C.σ C.n C.s.heap I σ st s.heap
 sm:bw C.s s
 l:av C.cx.P C.fe m C.env I σ st.length s.heap
 cu:C.jq i s.heap
 ap:Apart I σ st.length C.it
section
variable{st:St}
theorem oi.here(W:oi C nx)(L:uy C i m I σ st s):au C.cx C.k C.A I σ st s:=⟨W.fit,W.b.mono L.x.le.i,L.x.rel⟩
theorem oi.nc(W:oi C nx)(L:uy C i m I σ st s)(v:Option Value):¬s.heap.IsCell C.it v:=fun⟨o',h1,h2⟩=>by
 obtain⟨o,tn,Wl,ho,_,_,hod⟩:=W.w.obj L.cu;rw[qc (h1.symm.trans ho),hod]at h2;cases h2
theorem oi.next(W:oi C nx)(L:uy C i m I σ st s)(hv:nx i st=some (some v))(hQ:∀y s',uy C (i+1) m I σ st s'→aq I C.cx.P σ st.length v y→Q (some y) s'):wpAny C.cx.M C.A (pyNext (.ref C.it)) Q E s:=
 W.w.item hv (W.here L) L.x.le L.cu fun y h' tk ry cu' CN=>by
  obtain⟨o',tn',adt,Wm,_⟩:=W.w.obj cu';have xi:aM C.cx.P (fun b=>b=C.it) I σ st.length s.heap I σ st h':=aM.own L.x.rel L.ap.1 L.ap.2 CN Wm;exact hQ y {s with heap:=h',toks:=tk} ⟨L.x.trans (xi.weaken fun b q=>.inr q),L.sm,L.l.Jq (fun b o hb e=>(CN.2 b hb).trans e) W.nO (W.nc L),cu',L.ap⟩ ry
theorem oi.lets(W:oi C nx)(L:uy C i m I σ st s)(h:Q () s):wpAny C.cx.M C.A (letOwnedTupleGo t (.ref C.it) y) Q E s:=
 let⟨_,_,_,ho,hc,hn,hd⟩:=W.w.obj L.cu
 Uj ho hc hn hd h
theorem oi.stop(W:oi C nx)(L:uy C i m I σ st s)(hv:nx i st=some none)(hQ:∀s',aM C.cx.P C.X C.I C.σ C.n C.s.heap I σ st s'.heap→bw C.s s'→av C.cx.P C.fe m C.env I σ st.length s'.heap→Q none s'):wpAny C.cx.M C.A (pyNext (.ref C.it)) Q E s:=
 W.w.done hv (W.here L) L.x.le L.cu fun h' hx=>hQ {s with heap:=h'} (aM.last L.x (h₂:=h') (fun b o hb e=>hx b o hb e) W.dead L.ap) L.sm (L.l.Jq (fun b o hb e=>hx b o hb e) W.nO (W.nc L))
theorem oi.on(W:oi C nx)(L:uy C i m I σ st s)(x:aM C.cx.P C.X I σ st.length s.heap I' af st' s'.heap)(sm:bw s s')(l:av C.cx.P C.fe m' C.env I' af st'.length s'.heap):uy C i m' I' af st' s':=
 ⟨L.x.trans (x.weaken fun b q=>.inl q),L.sm.trans sm,l,W.w.BL L.cu fun o e=>x.keep C.it o e W.nX L.ap.2,x.apart ((by obtain⟨o,_,_,ho,_⟩:=W.w.obj L.cu;exact⟨o,ho⟩)) L.ap⟩
theorem oi.fin(W:oi C nx)(L:uy C i m I σ st s):aM C.cx.P C.X C.I C.σ C.n C.s.heap I σ st s.heap:=aM.last L.x (fun b o _ e=>e) W.dead L.ap
end
section
inductive PE (C:Hx) (ev:Ev) (names:List Str) (t:Expr) (body:List Stmt) (nx:Nat→St→Option (Option V)) (Q:cz→Prop) (n:Nat) (s:Shared):Prop
 |mk {i:Nat} {m:ai} {I:IM} {σ:Nat→Addr} {st:St} (L:uy C i m I σ st s) (g:Good C.cx.S C.cx.pre (wJ ev C.k C.fe names t body nx n i m st) Q)
theorem PF(S:aU cx ev)(eC:C.cx=cx)(W:oi C nx){n:Nat}{Q:cz→Prop}{F:Flow→Shared→Prop}{s:Shared}{K:Option Value→Shared→Prop}{E:Value→Shared→Prop}
  (J:PE C ev names t body nx Q (n+1) s)(hX:∀b,aF C.env b→C.X b)(hF:∀p,Q p→Ends C.cx C.X C.I C.σ C.n C.s (fun I σ st o f s=>rO I C.cx.P σ st.length o.1 f∧av C.cx.P C.fe o.2 C.env I σ st.length s.heap) F p)
  (h0:∀s',F .next s'→K none s')(h1:∀y s₁,(∀J':Flow→Shared→Prop,(∀f br,f=.next∨f=.cont→PE C ev names t body nx Q n br→J' f br)→(∀f br,(f=.brk∧F .next br)∨((∃u,f=.ret u)∧F f br)→J' f br)→wpAny C.cx.M C.A (letOwnedTupleGo t (.ref C.it) y) (fun _ s=>wpAny C.cx.M C.A (assign t C.env y) (fun _ s=>wpAny C.cx.M C.A (execs body C.env) J' E s) E s) E s₁)→K (some y) s₁):
  wpAny C.cx.M C.A (pyNext (.ref C.it)) K E s:=by
 subst eC;obtain⟨L,g⟩:=J
 rename_i i m I σ st
 rw[wJ.eq_2]at g;refine aN g fun o RY g=> ?_;induction o using qe with
 |none=>exact W.stop L RY fun s' x sm l=>h0 s' (hF _ g I σ _ s' x sm ⟨.next,l⟩)
 |some v=>
  refine W.next L RY fun y s₁ Jr ry=>h1 y s₁ fun J' hn hb=>W.lets Jr (aN g fun m' hm g=> ?_);refine pF (W.here Jr) Jr.l ry hm fun br bQ cJ dX=> ?_;have Wn:=W.on Jr (bQ.weaken hX) cJ dX;refine S.b (W.here Wn) dX (Good.mono (fun p gp BN sQ f jR jm qU ro=> ?_) (Good.bind g));obtain⟨⟨out,aa3⟩,xW⟩:=p;obtain⟨ro,u9⟩:=ro;have wK:=W.on Wn (jm.weaken hX) qU u9;have Lk:uy C (i+1) (gF names aa3) BN sQ xW jR:=⟨wK.x,wK.sm,u9.less fun x v e=>sO e,wK.cu,wK.ap⟩;induction out using Out.casesOn with
  |next=>obtain rfl:=ro;exact hn _ _ (.inl rfl) ⟨Lk,gp⟩
  |cont=>obtain rfl:=ro;exact hn _ _ (.inr rfl) ⟨Lk,gp⟩
  |brk=>obtain rfl:=ro;exact hb _ _ (.inl ⟨rfl,hF _ gp BN sQ _ jR (W.fin wK) wK.sm ⟨.next,u9⟩⟩)
  |ret u=>obtain⟨_,rfl,hh⟩:=ro;exact hb _ _ (.inr ⟨⟨_,rfl⟩,hF _ gp BN sQ _ jR (W.fin wK) wK.sm ⟨.ret hh,u9⟩⟩)
theorem Hy(S:aU cx ev){jq:Nat→Heap→Prop}{names:List Str}{t:Expr}{body:List Stmt}{fuel:Nat}
  {Q:Flow→Shared→Prop}{R:Result→Shared→Prop}(hR:∀f s',Q f s'→R (.ok f) s')(zA:au cx k A mZ jw lQ kG)(W:Walk cx k A it nx jq mZ jw lQ.length)(dead:kG.heap.get? it=none)
  (kp:∀b o,kG.heap.get? b=some o→s₁.heap.get? b=some o)(Js:bw kG s₁)(c0:jq 0 s₁.heap)(Jt:av cx.P fe m env mZ jw lQ.length kG.heap)
  (g:Good cx.S cx.pre (wJ ev k fe names t body nx fuel 0 m lQ) (EO cx fe env mZ jw lQ kG Q)):
  codeAny cx.M A (.forLoop t (.ref it) body [] env) R s₁:=by
 have Ju:=aM.grow zA.rel kp
 let C:Hx:=⟨cx,k,A,fe,env,it,aF env,jq,mZ,jw,lQ.length,kG⟩
 have nO:¬aF env it:=fun ob=>by
  obtain⟨o,ho⟩:=Jt.live it ob;exact nn (dead.symm.trans ho)
 have WC:oi C nx:=⟨W,dead,nO,nO,zA.base,zA.fit⟩;have ap:Apart mZ jw lQ.length it:=⟨zA.rel.pZ dead,fun j hj z=>by
  obtain⟨o,ho⟩:=zA.rel.live hj;exact nn (dead.symm.trans (z▸ho))⟩
 refine codeAny_forLoop_any (fun n s=>PE C ev names t body nx (EO cx fe env mZ jw lQ kG Q) n s) (fun n s J=> ?_) fuel ⟨⟨Ju.weaken (fun _ q=>q.elim),Js,Jt.ext Ju,c0,ap⟩,g⟩;induction n using qk with
 |zero=>obtain⟨_,g⟩:=J;exact g.elim
 |succ n=>
  refine PF S (C:=C) rfl WC (F:=Q) J (fun _ q=>q) (fun p q=>q) (fun s' q=>wpAny_execs_nil (hR _ _ q)) fun y s₁ h=> ?_;refine h _ (fun f br hf J'=> ?_) fun f br hf=> ?_
  ·rcases hf with rfl|rfl
   ·exact⟨n,qF _,J'⟩
   ·exact⟨n,qF _,J'⟩
  ·rcases hf with⟨rfl,q⟩|⟨⟨u,rfl⟩,q⟩
   ·exact hR _ _ q
   ·exact hR _ _ q
end
noncomputable def intsFrom:Nat→Nat→List V
 |_,0=>[]
 |i,n+1=>.int (.ofNat i)::intsFrom (Nat.succ i) n
theorem PG:∀{j i:Nat} {v:V},di (intsFrom j n) i=some v→i<n∧v=.int ((j+i:Nat):Int):=by
 induction n with
 |zero=>exact fun e=>nn e
 |succ n ih=>
  intro j i v e;induction i using qk with
  |zero=>exact⟨Nat.succ_pos _,(qc e).symm⟩
  |succ i=>
   obtain⟨h1,h2⟩:=ih (j:=Nat.succ j) (i:=i) e;exact⟨Nat.succ_lt_succ h1,h2.trans (congrArg (fun x:Nat=>V.int (x:Int)) (Nat.succ_add_eq_add_succ j i))⟩
theorem Dt:∀{j i:Nat},di (intsFrom j n) i=none→n≤i:=by
 induction n with
 |zero=>exact fun _=>qm _
 |succ n ih=>
  intro j i e;induction i using qk with
  |zero=>exact ns e
  |succ i=>exact Nat.succ_le_succ (ih (j:=Nat.succ j) (i:=i) e)
noncomputable def Aq{α:Type}(l:List α):Bool:=match l with
 |[]=>true
 |_::_=>false
noncomputable def Jv(l:Nat)(i:Nat)(st:St):Option (Option V):=cC (listAt st l) fun pv=>fH (Aq pv.1) (fH (Nat.blt (len pv.2) 500) (some (di pv.2 i)))
theorem zB{st:St}{o:Option V}(h:Jv l i st=some o):∃vs,listAt st l=some ([],vs)∧di vs i=o:=aK h fun pv e h=>by
 obtain⟨p,vs⟩:=pv;induction p using qh with
 |nil=>exact⟨vs,e,qc (cW h)⟩
 |cons=>exact ft (cP h)
noncomputable def EM(e:Expr):Bool:=match e with
 |.Set _ _ _=>false
 |_=>true
noncomputable def Mv(ev:Ev)(k:Nat)(fe:FE)(t:Expr)(body:List Stmt)(m:ai)(v:V)(st:St):iw:=match v with
 |.tup vs=>EL ev k fe (mC m) t body vs m st
 |.lst vs=>.loop (forTurn ev k fe t body) (gF (mC m)) vs m st fun q=>.ok q
 |.vO n=>.need (n<1000) (.loop (forTurn ev k fe t body) (gF (mC m)) (intsFrom 0 n) m st fun q=>.ok q)
 |.loc l=>wJ ev k fe (mC m) t body (Jv l) 12 0 m st
 |_=>.bad
noncomputable def RZ(ev:Ev)(k:Nat)(fe:FE)(m:ai)(st:St)(t jB:Expr)(body jC:List Stmt):iw:=dQ (Aq jC) (dQ (EM jB) ((ev.e k fe m st jB).bind fun p=>Mv ev k fe t body m p.1 p.2))
noncomputable def Jw(v:V):Option (List V):=match v with
 |.tup vs=>some vs
 |.lst vs=>some vs
 |.vO n=>some (intsFrom 0 n)
 |_=>none
def BO(v:V):Prop:=match v with
 |.vO n=>n<1000
 |_=>True
section
variable{st:St}
theorem Jx(R0:A.handled=none)(h:I a=some {cls:=.type "tuple",data:=.seq xs.toArray n})(r:aG I cx.P σ n₀ vs xs):
  Walk cx k A it (fun i _=>some (di vs i)) (fun i h=>h.IsTupleIter it a i) I σ n₀ where
 item:=fun{i v s I' af st' E Q} hv H le cu hQ=>by
  obtain⟨x,hx,rx⟩:=r.di (qc hv);have EN:s.heap.IsTuple a xs.toArray:=⟨_,H.rel.sub _ _ (le.i _ _ h),rfl,n,rfl⟩;exact wpAny_pyNext_tuple_item cu EN (by simpa using hx) fun h' c sb=>hQ x h' s.toks (rx.mono le) c sb
 done:=fun{i s I' af st' E Q} hv H le cu hQ=>by
  have EN:s.heap.IsTuple a xs.toArray:=⟨_,H.rel.sub _ _ (le.i _ _ h),rfl,n,rfl⟩;have e1:=r.length;have hn:di vs i=none:=qc hv;rw[gI,List.getElem?_eq_none_iff]at hn;exact wpAny_pyNext_tuple_end H.fit.handled cu EN (by simp;lia) hQ
 BL:=fun⟨o,h1,h2,h3⟩ k=>⟨o,k o h1,h2,h3⟩
 obj:=fun⟨o,h1,h2,h3⟩=>⟨o,_,_,h1,h2,.inr (.inl rfl),h3⟩
theorem Mw(R0:A.handled=none)(h:I a=some {cls:=.type "list",data:=.seq xs.toArray n})(r:aG I cx.P σ n₀ vs xs):
  Walk cx k A it (fun i _=>some (di vs i)) (fun i h=>h.IsListIter it a i) I σ n₀ where
 item:=fun{i v s I' af st' E Q} hv H le cu hQ=>by
  obtain⟨x,hx,rx⟩:=r.di (qc hv);have EN:s.heap.IsList a xs.toArray:=⟨_,H.rel.sub _ _ (le.i _ _ h),rfl,n,rfl⟩;exact wpAny_pyNext_list_item cu EN (by simpa using hx) fun h' c sb=>hQ x h' s.toks (rx.mono le) c sb
 done:=fun{i s I' af st' E Q} hv H le cu hQ=>by
  have EN:s.heap.IsList a xs.toArray:=⟨_,H.rel.sub _ _ (le.i _ _ h),rfl,n,rfl⟩;have e1:=r.length;have hn:di vs i=none:=qc hv;rw[gI,List.getElem?_eq_none_iff]at hn;exact wpAny_pyNext_list_end H.fit.handled cu EN (by simp;lia) hQ
 BL:=fun⟨o,h1,h2,h3⟩ k=>⟨o,k o h1,h2,h3⟩
 obj:=fun⟨o,h1,h2,h3⟩=>⟨o,_,_,h1,h2,.inl rfl,h3⟩
theorem PI(hl:l<n₀):Walk cx k A it (Jv l) (fun i h=>h.IsListIter it (σ l) i) I σ n₀ where
 item:=fun{i v s I' af st' E Q} hv H le cu hQ=>by
  obtain⟨vs,hp,hv⟩:=zB hv;obtain⟨xs,ep,g,r,_⟩:=H.rel.listAt hp;obtain⟨x,hx,rx⟩:=r.di hv;exact wpAny_pyNext_list_item cu ⟨_,le.s l hl▸g,rfl,ep,rfl⟩ (by simpa using hx) fun h' c sb=>hQ x h' s.toks rx c sb
 done:=fun{i s I' af st' E Q} hv H le cu hQ=>by
  obtain⟨vs,hp,hv⟩:=zB hv;obtain⟨xs,ep,g,r,_⟩:=H.rel.listAt hp;have e1:=r.length;rw[gI,List.getElem?_eq_none_iff]at hv;exact wpAny_pyNext_list_end H.fit.handled cu ⟨_,le.s l hl▸g,rfl,ep,rfl⟩ (by simp;lia) hQ
 BL:=fun⟨o,h1,h2,h3⟩ k=>⟨o,k o h1,h2,h3⟩
 obj:=fun⟨o,h1,h2,h3⟩=>⟨o,_,_,h1,h2,.inl rfl,h3⟩
theorem Jy:Walk cx k A it (fun i _=>some (di (intsFrom 0 n) i)) (fun i h=>IsRangeIter h it (i:Int) ((n:Int)-(i:Int)) 1) I σ n₀ where
 item:=fun{i v s I' af st' E Q} hv H le cu hQ=>by
  obtain⟨h1,h2⟩:=PG (qc hv);rw[Nat.zero_add]at h2;subst h2;exact wpAny_pyNext_range_item cu (by lia) fun h' c sb=>hQ _ h' _ (.int _ _) (by
   have e1:((i:Int)+1)=((i+1:Nat):Int):=by rfl
   have e2:(n:Int)-(i:Int)-1=(n:Int)-((i+1:Nat):Int):=by lia
   rw[e1,e2]at c;exact c) sb
 done:=fun{i s I' af st' E Q} hv H le cu hQ=>by
  have:=Dt (qc hv);exact wpAny_pyNext_range_end H.fit.handled cu (by lia) hQ
 BL:=fun h1 k=>k _ h1
 obj:=fun h1=>⟨_,_,_,h1,rfl,.inr (.inr rfl),rfl⟩
theorem Mx{all:List V}{Q:dS}(H:au cx k A I σ st s)(r:aq I cx.P σ st.length v y)(e:Jw v=some all)(hp:BO v)
  (h:∀(ob:Obj) (jq:Nat→Heap→Prop),ob.isFreed=false→Walk cx k A s.heap.objs.size (fun i _=>some (di all i)) jq I σ st.length→jq 0 (s.heap.push ob)→
   (∀(i:Nat) (s':Shared) (Q:dS) (E:dS),jq i s'.heap→Q (.ref s.heap.objs.size) s'→wpAny cx.M A (pyIter (.ref s.heap.objs.size)) Q E s')→Q (.ref s.heap.objs.size) {s with heap:=s.heap.push ob}):
  wpAny cx.M A (pyIter y) Q E s:=by
 replace r:=r.inv;induction v using V.casesOn with
 |tup vs=>induction r using iW.casesOn with
  |mk gg rr=>exact wpAny_pyIter_tuple ⟨_,H.rel.sub _ _ gg,rfl,_,rfl⟩ (h _ _ rfl (qc e▸Jx H.fit.handled gg rr) ⟨_,Heap.get?_push_size _ rfl,rfl,rfl⟩ fun i s Q E c q=>wpAny_pyIter_tupleiter c q)
 |lst vs=>induction r using mY.casesOn with
  |mk gg rr=>exact wpAny_pyIter_list ⟨_,H.rel.sub _ _ gg,rfl,_,rfl⟩ (h _ _ rfl (qc e▸Mw H.fit.handled gg rr.up) ⟨_,Heap.get?_push_size _ rfl,rfl,rfl⟩ fun i s Q E c q=>wpAny_pyIter_listiter c q)
 |vO n=>induction r using uQ.casesOn with
  |mk gg=>
   have hp:n<1000:=hp;have sz:Builtin.Range.rangeSize 0 (n:Int) 1=(n:Int):=by
    rw[rangeSize_one]
    split<;>lia
   refine wpAny_pyIter_range (H.rel.sub _ _ gg) (small_one (by decide) (by decide) (by lia) (by lia)) ?_;refine h _ _ rfl (qc e▸Jy (n:=n)) ?_ fun i s Q E c q=>wpAny_pyIter_rangeiter c q;show IsRangeIter _ _ _ _ _;rw[sz];have:=Heap.get?_push_size s.heap (o:={cls:=.type "range_iterator",data:=.fields #[rawInt 0,rawInt (n:Int),rawInt 1]}) rfl;trivial
 |_=>exact nn e
theorem BP{y:Value}{vs:List V}{R:Result→SP}(S:aU cx ev)(hR:∀f s',Q f s'→R (.ok f) s')(H:au cx k A I σ st s)(l:av cx.P fe m env I σ st.length s.heap)(r:aq I cx.P σ st.length v y)(e:Jw v=some vs)(hp:BO v)
  (g:Good cx.S cx.pre (EL ev k fe (mC m) t body vs m st) (EO cx fe env I σ st s Q)):wpAny cx.M A (pyIter y) (fun it br=>codeAny cx.M A (.forLoop t it body [] env) R br) E s:=
 Mx H r e hp fun ob jq R3 W c0 _=>Hy S (Q:=Q) (names:=mC m) hR H W (dD _) (fun _ _ e=>Heap.get?_push_of_some _ e) ⟨rfl,rfl,rfl⟩ c0 l (fuel:=vs.length+1) (Ui (pre:=[]) rfl▸g)
theorem Uk(S:aU cx ev)(hR:∀f s',Q f s'→R (.ok f) s')(H:au cx k A I σ st s)(l:av cx.P fe m env I σ st.length s.heap)(r:aq I cx.P σ st.length v y)
  (g:Good cx.S cx.pre (Mv ev k fe t body m v st) (EO cx fe env I σ st s Q)):wpAny cx.M A (pyIter y) (fun it br=>codeAny cx.M A (.forLoop t it body [] env) R br) E s:=by
 induction v using V.casesOn with
 |tup vs=>exact BP S hR H l r rfl trivial g
 |lst vs=>exact BP S hR H l r rfl trivial (CL (pY g))
 |vO n=>exact BP S hR H l r rfl g.1 (CL (pY g.2))
 |loc j=>
  replace r:=r.inv;induction r using iH.casesOn with
  |mk hj=>
   refine aN g fun o RY _=> ?_;obtain⟨vs,hp,_⟩:=zB RY;obtain⟨xs,ep,gg,_⟩:=H.rel.listAt hp;exact wpAny_pyIter_list ⟨_,gg,rfl,ep,rfl⟩ (Hy S (Q:=Q) (names:=mC m) hR H (PI hj) (dD _) (fun _ _ e=>Heap.get?_push_of_some _ e) (s₁:={s with heap:=s.heap.push _}) ⟨rfl,rfl,rfl⟩ ⟨_,Heap.get?_push_size _ rfl,rfl,rfl⟩ l g)
 |_=>exact g.elim
theorem vR(h:EM jB=true)(x:Value):foldedSetIterable jB env x=pure x:=by induction jB using PySem.Expr.casesOn<;>first|rfl|exact ft h
theorem Wo(S:aU cx ev)(H:au cx k A I σ st s)(l:av cx.P fe m env I σ st.length s.heap)(g:Good cx.S cx.pre (RZ ev k fe m st t jB body jC) (EO cx fe env I σ st s Q)):
  wpAny cx.M A (exec (.For t jB body jC pos) env) Q E s:=by
 obtain⟨h1,g0⟩:=bA g;obtain⟨h2,g1⟩:=bA g0;clear g g0;induction jC using qh with
 |cons=>exact ft h1
 |nil=>exact wpAny_For (S.ee H l g1 fun bG aZ aX s₁ jk iY aV aO aY bD b9 aQ=>Uk S (Q:=Q) (fun f s' q=>q) aY bD b9 (Good.mono (fun p gp=>EO.into gp aV aO) aQ)) (vR h2)
end
noncomputable def EP(ev:Ev)(k:Nat)(fe:FE)(names:List Str)(t:Expr)(body:List Stmt):Nat→ai→St→iw
 |0,_,_=>.bad
 |f+1,m,st=>(ev.t k fe m st t).bind fun p=>match p.1 with
  |true=>(ev.b k fe m p.2 body).bind (turned names (EP ev k fe names t body f))
  |false=>.ok ((.next,m),p.2)
noncomputable def HA(ev:Ev)(k:Nat)(fe:FE)(m:ai)(st:St)(t:Expr)(body jC:List Stmt):iw:=dQ (Aq jC) (EP ev k fe (mC m) t body 12 m st)
section
variable{st:St}
def R4(cx:Cx)(fe:FE)(env:Env)(W:ai→St→iw)(I:IM)(σ:Nat→Addr)(st:St)(s:Shared)(Q:Flow→SP)(s':Shared):Prop:=
 ∃m' I' af st',Good cx.S cx.pre (W m' st') (EO cx fe env I σ st s Q)∧aM cx.P (aF env) I σ st.length s.heap I' af st' s'.heap∧bw s s'∧av cx.P fe m' env I' af st'.length s'.heap
theorem Jz(S:aU cx ev)(H:au cx k A bG aZ aX s₁)(l:av cx.P fe m env bG aZ aX.length s₁.heap)
  (x:aM cx.P (aF env) I σ st.length s.heap bG aZ aX s₁.heap)(sm:bw s s₁)(g:Good cx.S cx.pre ((ev.b k fe m aX body).bind (turned names W)) (EO cx fe env I σ st s Q))
  (hn:∀s',R4 cx fe env W I σ st s Q s'→R .next s')(hc:∀s',R4 cx fe env W I σ st s Q s'→R .cont s')(hb:∀s',Q .next s'→R .brk s')(hr:∀v s',Q (.ret v) s'→R (.ret v) s'):wpAny cx.M A (execs body env) R E s₁:=by
 refine S.b H l (Good.mono (fun p gp dj bH f br bQ cJ ro=> ?_) (Good.bind g));obtain⟨⟨out,m₂⟩,bW⟩:=p;obtain⟨ro,dX⟩:=ro;replace x:=x.trans bQ;replace sm:=sm.trans cJ;have J:Good cx.S cx.pre (W (gF names m₂) bW) (EO cx fe env I σ st s Q)→R4 cx fe env W I σ st s Q br:=fun gp=>⟨_,dj,bH,bW,gp,x,sm,dX.less fun x v e=>sO e⟩;induction out using Out.casesOn with
 |next=>obtain rfl:=ro;exact hn br (J gp)
 |cont=>obtain rfl:=ro;exact hc br (J gp)
 |brk=>obtain rfl:=ro;exact hb br (gp dj bH _ br x sm ⟨.next,dX⟩)
 |ret u=>obtain⟨_,rfl,hh⟩:=ro;exact hr _ br (gp dj bH _ br x sm ⟨.ret hh,dX⟩)
theorem PJ(S:aU cx ev)(H:au cx k A I σ st s)(l:av cx.P fe m env I σ st.length s.heap)(g:Good cx.S cx.pre (HA ev k fe m st t body jC) (EO cx fe env I σ st s Q)):
  wpAny cx.M A (exec (.While t body jC pos) env) Q E s:=by
 obtain⟨h1,g⟩:=bA g;induction jC using qh with
 |cons=>exact ft h1
 |nil=>
  refine wpAny_While (codeAny_whileLoop (fun n=>R4 cx fe env (EP ev k fe (mC m) t body n) I σ st s Q) ?_ 12 ⟨m,I,σ,st,g,aM.refl H.rel,bw.refl s,l⟩);rintro n s' ⟨m',I',af,st',g,x,sm,l'⟩;induction n using qk with
  |zero=>exact g.elim
  |succ n=>
   refine S.tt (H.go x) l' g fun bG aZ aX s₁ c aV aO aY bD aQ=> ?_;have xa:=x.trans (aV.weaken (Y:=aF env) fun _ q=>q.elim);induction c using qd with
   |true=>exact Jz S aY bD xa (sm.trans aO) aQ (fun s' j=>⟨n,qF _,j⟩) (fun s' j=>⟨n,qF _,j⟩) (fun s' q=>q) (fun v s' q=>q)
   |false=>exact wpAny_execs_nil (aQ bG aZ _ s₁ xa (sm.trans aO) ⟨.next,bD⟩)
end
noncomputable def ER(o:Option NameKind):Bool:=match o with
 |some k=>Eu k
 |none=>false
theorem GO(h:ER o=true):o=some .local:=by
 induction o using qe with
 |none=>exact ft h
 |some k=>induction k using PySem.NameKind.casesOn<;>first|rfl|exact ft h
section
variable{st:St}
noncomputable abbrev qV(fe:FE):Expr→V→ai→Option ai:=u7 fun n=>ER (lk n fe.scope.names)
theorem JA(H:au cx k A I σ st s)(l:av cx.P fe m env I σ st.length s.heap)(hv:aq I cx.P σ st.length v y)(e:qV fe t v m=some m')
  (h:∀s',aM cx.P (fun b=>b=env.locals) I σ st.length s.heap I σ st s'.heap→bw s s'→av cx.P fe m' env I σ st.length s'.heap→Q () s'):wpAny cx.M A (assign t env y) Q E s:=Ao (fun H l e r h=>yC H l (GO e) r h) H l hv e h
noncomputable def DA(ev:Ev)(k:Nat)(fe:FE)(m:ai)(st:St)(fC:List Expr):aA (Bool×St):=match fC with
 |[]=>.ok (true,st)
 |[c]=>ev.t k fe m st c
 |_=>.bad
noncomputable def qW(ev:Ev)(k:Nat)(fe:FE)(names:List Str)(t eT:Expr)(fC:List Expr)(L:Nat):List V→ai→St→aA St
 |[],m,st=>.ok st
 |v::vs,m,st=>cy (qV fe t v m) fun m'=>(DA ev k fe m' st fC).bind fun b=>match b.1 with
  |true=>(ev.e k fe m' b.2 eT).bind fun p=>(xM p.2 L p.1).bind fun st'=>qW ev k fe names t eT fC L vs (gF names m') st'
  |false=>qW ev k fe names t eT fC L vs (gF names m') b.2
noncomputable def Ar(env:Env)(fC:List Expr):Sem Bool:=forIn fC true fun c r=>if r=true then(do let r ←isTrue c env (eval c env);pure (.yield r))else pure (.yield r)
theorem ES(eT lC jB:Expr)(fC:List Expr)(scope:Scope)(pos:Pos)(it acc:Value)(env:Env):
  compTurn (.ListComp eT [⟨lC,jB,fC,0⟩] scope pos) 0 it acc env=(standAt jB.pos>>=fun _=>pyNext it>>=fun r=>match r with
   |none=>pure (.done .next)
   |some v=>letOwnedTupleGo lC it v>>=fun _=>assign lC env v>>=fun _=>Ar env fC>>=fun ok=>
    if ok=true then(eval eT env>>=fun x=>call (.builtin "list.append") [acc,x]>>=fun _=>pure ())>>=fun _=>
     again (.compLoop (.ListComp eT [⟨lC,jB,fC,0⟩] scope pos) 0 it acc env)
    else again (.compLoop (.ListComp eT [⟨lC,jB,fC,0⟩] scope pos) 0 it acc env)):=by rfl
theorem Ul(S:aU cx ev)(H:au cx k A I σ st s)(l:av cx.P fe m env I σ st.length s.heap)
  (g:Good cx.S cx.pre (DA ev k fe m st fC) R)
  (h:∀I' af st' s' b,aM cx.P (fun _=>False) I σ st.length s.heap I' af st' s'.heap→bw s s'→au cx k A I' af st' s'→av cx.P fe m env I' af st'.length s'.heap→R (b,st')→Q b s'):
  wpAny cx.M A (Ar env fC) Q E s:=by
 unfold DA at g;unfold Ar
 split at g
 ·rw[List.forIn_nil];exact wpAny_pure (h I σ st s true (aM.refl H.rel) (bw.refl s) H l g)
 ·rename_i c
  rw[List.forIn_cons];refine wpAny_bind ?_;rw[if_pos rfl];refine wpAny_bind (S.t H l (Good.mono (fun p gp I' af b s' x sm e=> ?_) g));have e':p.1=b:=e;refine wpAny_pure ?_;dsimp only;rw[List.forIn_nil];exact wpAny_pure (h I' af p.2 s' b x sm (H.go x) (l.ext x) (e'▸gp))
 ·exact g.elim
def R5(prog:Program)(w:World)(A:Around)(eT lC:Expr)(fC:List Expr)(env:Env)(it acc v:Value)(J:SP)(E:dS)(s:Shared):Prop:=
 wpAny (model prog w) A (letOwnedTupleGo lC it v) (fun _ s=>wpAny (model prog w) A (assign lC env v) (fun _ s=>wpAny (model prog w) A (Ar env fC) (fun ok s=>(ok=true→wpAny (model prog w) A (eval eT env) (fun x s=>
  wpAny (model prog w) A (call (.builtin "list.append") [acc,x]) (fun _ s=>J s) E s) E s)∧(ok=false→J s)) E s) E s) E s
theorem Du(J:Nat→Shared→Prop)
  (turn:∀n s,J n s→∀(J':Shared→Prop) (K:Option Value→Shared→Prop) (E:Value→Shared→Prop),(∀m s,m<n→J m s→J' s)→(∀s,R (.ok .next) s→K none s)→(∀v s,R5 prog w A eT lC fC env it acc v J' E s→K (some v) s)→wpAny (model prog w) A (pyNext it) K E s)
  (n:Nat)(h:J n s):codeAny (model prog w) A (.compLoop (.ListComp eT [⟨lC,jB,fC,0⟩] scope pos) 0 it acc env) R s:=by
 refine codeAny_loop rfl J (fun n s hI=> ?_) n h;show wpAny _ _ ((compTurn (.ListComp eT [⟨lC,jB,fC,0⟩] scope pos) 0 it acc env).onRaise (fun x=>do noteFrame x env;theTreesLotGoes x)) _ _ s;refine wpAny_noted ?_;rw[ES];refine wpAny_bind (wpAny_standAt (wpAny_bind (turn n s hI (fun s=>∃m,m<n∧J m s) _ _ (fun m s h j=>⟨m,h,j⟩) (fun s h=>wpAny_pure h) fun v s h=> ?_)));refine wpAny_bind (wpAny_mono h (fun _ s h=>wpAny_bind (wpAny_mono h (fun _ s h=>wpAny_bind (wpAny_mono h (fun ok s h=> ?_) fun _ _ h=>h)) fun _ _ h=>h)) fun _ _ h=>h);induction ok using qd with
 |true=>
  rw[if_pos rfl];exact wpAny_bind (wpAny_bind (wpAny_mono (h.1 rfl) (fun x s h=>wpAny_bind (wpAny_mono h (fun _ s h=>wpAny_pure (wpAny_pure ⟨rfl,h⟩)) fun _ _ h=>h)) fun _ _ h=>h))
 |false=>
  rw[if_neg qE];exact wpAny_pure ⟨rfl,h.2 rfl⟩
end
section
inductive JB (C:Hx) (ev:Ev) (names:List Str) (t eT:Expr) (fC:List Expr) (L:Nat) (D:Addr) (all:List V) (Z:St→Prop) (n:Nat) (s:Shared):Prop
 |mk {i:Nat} {rest:List V} {m:ai} {I:IM} {σ:Nat→Addr} {st:St} (q:uy C i m I σ st s) (hn:rest.length=n) (ha:all.drop i=rest) (g:Good C.cx.S C.cx.pre (qW ev C.k C.fe names t eT fC L rest m st) Z) (hl:L<st.length) (hd:σ L=D)
theorem My(S:aU cx ev)(eC:C.cx=cx)(W:oi C (fun i _=>some (di all i)))(hX:C.X=fun b=>b=C.env.locals){L n:Nat}{D:Addr}{Z:St→Prop}{s:Shared}{J':Shared→Prop}{K:Option Value→Shared→Prop}
  (J:JB C ev names t eT fC L D all Z n s)(hJ:∀j s,j<n→JB C ev names t eT fC L D all Z j s→J' s)
  (h0:∀I' af st' s',Z st'→aM C.cx.P C.X C.I C.σ C.n C.s.heap I' af st' s'.heap→bw C.s s'→af L=D→L<st'.length→Apart I' af st'.length C.env.locals→(∃mm,s'.heap.Ns C.env.locals mm)→K none s')
  (h1:∀v s,R5 cx.prog cx.w C.A eT t fC C.env (.ref C.it) (.ref D) v J' E s→K (some v) s):wpAny C.cx.M C.A (pyNext (.ref C.it)) K E s:=by
 subst eC;obtain⟨q,hn,ha,g,hl,hd⟩:=J
 rename_i i rest m I σ st
 have hx:∀{I' rH:IM} {af oF:Nat→Addr} {n':Nat} {iI:St} {h' Lo:Heap},aM C.cx.P (fun _=>False) I' af n' h' rH oF iI Lo→aM C.cx.P C.X I' af n' h' rH oF iI Lo:=fun x=>x.weaken fun _ q=>q.elim;induction rest using qh with
 |nil=>
  have hz:di all i=none:=by rw[gI,←Nat.add_zero i,←List.getElem?_drop,ha];rfl
  exact W.stop q (congrArg some hz) fun s' x sm l=>h0 I σ st s' g x sm hd hl (l.apart _ (.inl rfl)) ((by obtain⟨mm,h,_⟩:=l.ns;exact⟨mm,h⟩))
 |cons v rest=>
  have hv:di all i=some v:=by rw[gI,←Nat.add_zero i,←List.getElem?_drop,ha];rfl
  have ha':all.drop (i+1)=rest:=by rw[←List.drop_drop,ha];rfl
  have hn:rest.length<n:=hn▸qF _;refine W.next q (congrArg some hv) fun y s₁ JC ry=>h1 y s₁ (W.lets JC (aN g fun m' hm g=> ?_));refine JA (W.here JC) JC.l ry hm fun br bQ cJ dX=> ?_;have Wq:=W.on JC (hX▸bQ) cJ dX;refine Ul S (W.here Wq) dX (Good.bind g) fun dj bH bW adq b xb smb cO R6 fL=> ?_;have Wr:=W.on Wq (hx xb) smb R6;have JD:L<bW.length:=qz hl xb.le.n;have R7:bH L=D:=(xb.le.s L hl).trans hd;have fin:∀{BN:IM} {sQ:Nat→Addr} {xW:St} {jR:Shared},uy C (i+1) m' BN sQ xW jR→L<xW.length→sQ L=D→Good C.cx.S C.cx.pre (qW ev C.k C.fe names t eT fC L rest (gF names m') xW) Z→J' jR:=
   fun q hl hd g=>hJ _ _ hn ⟨⟨q.x,q.sm,q.l.less fun x v e=>sO e,q.cu,q.ap⟩,rfl,ha',g,hl,hd⟩
  induction b using qd with
  |false=>exact⟨fun e=>ft e,fun _=>fin Wr JD R7 fL⟩
  |true=>
   refine⟨fun _=>S.ee cO R6 fL fun BN sQ xW jR u z jm qU PK u9 aa4 EJ=> ?_,fun e=>tf e⟩;have R8:=qz JD jm.le.n;have R9:sQ L=D:=(jm.le.s L JD).trans R7;rw[←R9];exact yG (l:=L) (E:=E) PK aa4 (Good.bind EJ) (Q:=fun _ JE=>J' JE) fun st' JE EK wL Zk=>fin (W.on (W.on Wr (hx jm) qU u9) (hx wL) Zk (u9.ext wL)) (qz R8 wL.le.n) (R9▸wL.le.s L R8) EK
theorem Mz(S:aU cx ev){bG:IM}{aZ:Nat→Addr}{aX:St}{s₁:Shared}{it D:Addr}{all:List V}{jq:Nat→Heap→Prop}{names:List Str}{t eT jB:Expr}
  (hR:∀I' af st' s',Z st'→aM cx.P (fun b=>b=tV.locals) bG aZ aX.length s₁.heap I' af st' s'.heap→bw s₁ s'→af L=D→L<st'.length→Apart I' af st'.length tV.locals→(∃mm,s'.heap.Ns tV.locals mm)→R (.ok .next) s')
  (aa5:iJ cx bG)(zA:au cx k A mZ jw lQ kG)(W:Walk cx k A it (fun i _=>some (di all i)) jq bG aZ aX.length)(dead:s₁.heap.get? it=none)(JF:¬aF tV it)
  (Ju:aM cx.P (fun _=>False) bG aZ aX.length s₁.heap mZ jw lQ kG.heap)(Js:bw s₁ kG)(c0:jq 0 kG.heap)(Jt:av cx.P fe m tV mZ jw lQ.length kG.heap)(Zl:Apart mZ jw lQ.length it)(hL:L<lQ.length)(hD:jw L=D)
  (g:Good cx.S cx.pre (qW ev k fe names t eT fC L all m lQ) Z):
  codeAny cx.M A (.compLoop (.ListComp eT [⟨t,jB,fC,0⟩] scope pos) 0 (.ref it) (.ref D) tV) R kG:=by
 let C:Hx:=⟨cx,k,A,fe,tV,it,fun b=>b=tV.locals,jq,bG,aZ,aX.length,s₁⟩
 have WC:oi C (fun i _=>some (di all i)):=⟨W,dead,fun q=>JF (.inl q),JF,aa5,zA.fit⟩;exact Du (fun n s=>JB C ev names t eT fC L D all Z n s) (fun n s J J' K E hJ h0 h1=>My S (C:=C) rfl WC rfl J hJ (fun I' af st' s' z x sm hd hl ap hn=>h0 s' (hR I' af st' s' z x sm hd hl ap hn)) h1) all.length
  ⟨⟨Ju.weaken (fun _ q=>q.elim),Js,Jt,c0,Zl⟩,rfl,rfl,g,hL,hD⟩
end
noncomputable def uz:NameKind→Bool:=fun k=>match k with
 |.free=>true
 |_=>false
noncomputable def xX:Option NameKind→Bool:=fun o=>match o with
 |some k=>BE k
 |none=>false
theorem As(h:xX o=true):o=some .cell:=by
 induction o using qe with
 |none=>exact ft h
 |some k=>induction k using PySem.NameKind.casesOn<;>first|rfl|exact ft h
noncomputable def JG:List (Str×NameKind)→List Str
 |[]=>[]
 |p::l=>p.1::JG l
theorem PL(l:List (Str×NameKind)):JG l=l.map (·.1):=by
 induction l with
 |nil=>rfl
 |cons p l ih=>exact congrArg (p.1::·) ih
theorem JH(h:uz k=true):k=.free:=by induction k using PySem.NameKind.casesOn<;>first|rfl|exact ft h
noncomputable def qX:List (Str×NameKind)→List Str
 |[]=>[]
 |p::l=>match uz p.2 with
  |true=>p.1::qX l
  |false=>qX l
theorem MA(h:x∈qX l):(x,NameKind.free)∈l:=by
 induction l with
 |nil=>exact absurd h qN
 |cons p l ih=>
  rw[qX]at h;induction q:uz p.2 using qd with
  |true=>
   rw[q]at h;rcases List.mem_cons.mp h with e|h
   ·exact List.mem_cons.mpr (.inl (Prod.ext e (JH q).symm))
   ·exact .tail _ (ih h)
  |false=>rw[q]at h;exact .tail _ (ih h)
noncomputable def ET(fs:List (Str×NameKind))(x:Str)(k:NameKind):NameKind:=match uz k with
 |true=>match xX (lk x fs)with
  |true=>.cell
  |false=>k
 |false=>k
noncomputable def oM(fs:List (Str×NameKind)):List (Str×NameKind)→List (Str×NameKind)
 |[]=>[]
 |p::l=>(p.1,ET fs p.1 p.2)::oM fs l
noncomputable def Au(fs:List (Str×NameKind)):List (Str×NameKind)→Bool
 |[]=>true
 |p::l=>eW (Cz (i8 (uz p.2)) (xX (lk p.1 fs))) (Au fs l)
noncomputable def nk(fe:FE)(scope:Scope):Scope:={scope with names:=oM fe.scope.names scope.names}
noncomputable def rT(fe:FE)(scope:Scope):Bool:=eW (Je scope.kind) (eW (gJ scope.names) (eW (rP (JG scope.names)) (Au fe.scope.names scope.names)))
theorem CO(h:Au fs l=true)(hx:(x,NameKind.free)∈l):fs.lookup x=some .cell:=by
 induction l with
 |nil=>exact absurd hx qN
 |cons p l ih=>
  rcases List.mem_cons.mp hx with e|hx
  ·have:=(bk h).1;rw[←e]at this;exact(xH ..).symm.trans (As this)
  ·exact ih (bk h).2 hx
theorem HC:ET fs n k=if(k==NameKind.free&&lk n fs==some .cell)then .cell else k:=by
 rw[ET];induction k using PySem.NameKind.casesOn with
 |free=>
  induction q:xX (lk n fs)using qd with
  |true=>rw[As q];rfl
  |false=>
   have:(lk n fs==some .cell)=false:=beq_eq_false_iff_ne.mpr fun e=>by rw[e]at q;exact tf q
   rw[this];rfl
 |_=>rfl
theorem GP{env:Env}(hs:env.scope.names=fs)(hk:env.scope.kind=.function)(l:List (Str×NameKind)):
  (l.map fun(n,k)=>if(k==NameKind.free&&env.scope.kind==.function&&env.kindOf n==some .cell)then(n,NameKind.cell)else(n,k))=oM fs l:=by
 induction l with
 |nil=>rfl
 |cons p l ih=>
  obtain⟨n,kk⟩:=p;have e1:env.kindOf n=lk n fs:=by rw[xH,←hs];rfl
  rw[List.map_cons,ih,oM,HC,←e1,hk];refine congrArg (· ::_) ?_;show(if(kk==NameKind.free&&true&&env.kindOf n==some .cell)=true then _ else _)=_;rw[Bool.and_true];induction(kk==NameKind.free&&env.kindOf n==some .cell)using qd<;>rfl
theorem Av:(oM fs l).lookup x=(l.lookup x).map (ET fs x):=by
 induction l with
 |nil=>rfl
 |cons p l ih=>
  rw[oM.eq_2,List.lookup_cons,List.lookup_cons];induction q:x==p.1 using qd with
  |true=>rw[beq_iff_eq.mp q];rfl
  |false=>exact ih
noncomputable def gW(env:Env)(cs:List (Str×Addr))(p:Str×NameKind):List (Str×Addr):=if p.2==.free then(p.1,(env.cells.lookup p.1).getD 0)::cs else cs
theorem GQ{α β:Type}(f:α→β→Sem (ForInStep β))(g:β→α→β)(l:List α):(∀x∈l,∀c,f x c=pure (.yield (g c x)))→∀c,forIn l c f=pure (l.foldl g c):=by
 induction l with
 |nil=>exact fun _ _=>rfl
 |cons x l ih=>intro h c;rw[List.forIn_cons,h x qi,pure_bind];exact ih (fun y hy=>h y (qj _ hy)) _
theorem JI(h:∀x,(x,NameKind.free)∈scope.names→∃c,env.cells.lookup x=some c):closureFor scope env=pure (scope.names.foldl (gW env) []):=by
 unfold closureFor;dsimp only;rw[GQ _ (gW env) scope.names (fun p hp cs=>by
  obtain⟨n,kk⟩:=p;induction kk using PySem.NameKind.casesOn<;>try rfl
  obtain⟨c,hc⟩:=h n hp;unfold gW cellOf;rw[hc];rfl)]
 rfl
theorem MB{c:Addr}(hc:env.cells.lookup x=some c){names:List (Str×NameKind)}:∀{acc:List (Str×Addr)},(x,NameKind.free)∈names∨acc.lookup x=some c→(names.foldl (gW env) acc).lookup x=some c:=by
 induction names with
 |nil=>exact fun h=>h.resolve_left qN
 |cons p l ih=>
  intro acc h;refine ih ?_;rw[gW];by_cases q:x=p.1
  ·induction f:p.2==.free using qd with
   |true=>exact .inr (by rw[if_pos rfl,List.lookup_cons,←q,beq_self_eq_true,hc];rfl)
   |false=>exact h.imp (fun h=>(List.mem_cons.mp h).resolve_left fun e=>tf ((beq_iff_eq.mpr (congrArg Prod.snd e).symm:(p.2==.free)=true).symm.trans f)) fun h=>h
  ·exact h.imp (fun h=>(List.mem_cons.mp h).resolve_left fun e=>q (congrArg Prod.fst e)) fun h=>by
    split
    ·rw[List.lookup_cons,beq_eq_false_iff_ne.mpr q];exact h
    ·exact h
theorem MC{m:ai}{ns:List Str}(e:lk x (gF ns m)=some v):x∈ns:=by
 induction ns with
 |nil=>exact nn e
 |cons n ns ih=>exact CK e (fun q _=>q▸.head _) fun e=>.tail _ (ih e)
section
theorem nu(h:rT fe scope=true):scope.kind=.function∧gJ scope.names=true∧(scope.names.map (·.1)).Nodup∧Au fe.scope.names scope.names=true:=
 have h2:=bk (bk h).2;have h3:=bk h2.2
 ⟨Ew (bk h).1,h2.1,PL _▸sN h3.1,h3.2⟩
theorem Aw(l:av P fe m env I σ n h):relabel scope env=nk fe scope:=by
 unfold relabel nk;rw[GP (fs:=fe.scope.names) (by rw[l.scope]) (by rw[l.scope];exact l.kind)]
theorem CP(l:av P fe m env I σ n h)(x:Str):(compEnvC scope (scope.names.foldl (gW env) []) C env).kindOf x=(scope.names.lookup x).map (ET fe.scope.names x):=by
 show(relabel scope env).names.lookup x=_;rw[Aw l];exact Av
theorem EU(ok:rT fe scope=true)(l:av P fe m env I σ n h){x:Str}(hx:(compEnvC scope (scope.names.foldl (gW env) []) C env).kindOf x=some .cell):
  env.kindOf x=some .cell∧∃c,env.cells.lookup x=some c∧(compEnvC scope (scope.names.foldl (gW env) []) C env).cells.lookup x=some c:=by
 obtain⟨yM,mD,HD,MD⟩:=nu ok;rw[CP l]at hx;induction q:scope.names.lookup x using qe with
 |none=>rw[q]at hx;exact ns hx.symm
 |some kk=>
  rw[q]at hx;have hm:=mem_of_lookup q;induction kk using PySem.NameKind.casesOn with
  |cell=>exact absurd rfl (nj mD _ hm)
  |free=>
   have h2:env.kindOf x=some .cell:=by show env.scope.names.lookup x=_;rw[l.scope];exact CO MD hm
   exact(by obtain⟨c,_,hc,_⟩:=l.there x h2;exact⟨h2,c,hc,MB hc (.inl hm)⟩)
  |_=>cases hx
theorem EW(ok:rT fe scope=true)(l:av P fe m env I σ n h)(ob:aF (compEnvC scope (scope.names.foldl (gW env) []) C env) b):b=C∨aF env b:=ob.imp id fun⟨x,hx,hc⟩=>
 (by obtain⟨h2,c,h3,h4⟩:=EU ok l hx;exact .inr ⟨x,h2,h3.trans (h4.symm.trans hc)⟩)
theorem JJ{mm:Str→Option Value}(ok:rT fe scope=true)(l:av P fe m env I σ n h)(ux:h.Ns C mm)(ap:Apart I σ n C)(hC:¬aF env C):
  av P ⟨nk fe scope,[]⟩ (gF (qX scope.names) m) (compEnvC scope (scope.names.foldl (gW env) []) C env) I σ n h:=by
 have cl:∀{x},(compEnvC scope (scope.names.foldl (gW env) []) C env).kindOf x=some .cell→_:=fun{x} hx=>EU (C:=C) ok l (x:=x) hx;have kd:=CP (C:=C) (scope:=scope) l;have ow:∀{b},aF (compEnvC scope (scope.names.foldl (gW env) []) C env) b→_:=fun{b}=>EW (C:=C) ok l (b:=b);obtain⟨JK,he⟩:∃e,e=compEnvC scope (scope.names.foldl (gW env) []) C env:=⟨_,rfl⟩;have e1:JK.scope=nk fe scope:=he▸Aw l;have e2:JK.locals=C:=he▸rfl;have e3:JK.globals=env.globals:=he▸rfl;have e4:JK.builtins=env.builtins:=he▸rfl;rw[←he]at cl kd ow⊢;clear he;refine⟨e1,(nu ok).1,e3.trans l.glob,e4.trans l.blt,⟨mm,e2.symm▸ux,fun x v e hk=> ?_⟩,fun x v e hk=> ?_,fun x hk=> ?_,fun x v e hk=>nn e,fun b ob=> ?_,fun x c hk hc=> ?_,fun x y c hk nI hc Mh=> ?_⟩
 ·rw[kd,pT (nu ok).2.2.1 (MA (MC e)),Option.map,HC]at hk;replace hk:=qc hk
  split at hk<;>cases hk
 ·obtain⟨h0,c,h1,h2⟩:=cl hk;exact(by obtain⟨c',y,g1,g2,g3⟩:=l.cell x v (sO e) h0;exact⟨c',y,h2.trans (h1.symm.trans g1),g2,g3⟩)
 ·obtain⟨h0,c,h1,h2⟩:=cl hk;exact(by obtain⟨c',y,g1,g2⟩:=l.there x h0;exact⟨c',y,h2.trans (h1.symm.trans g1),g2⟩)
 ·exact(ow ob).elim (fun q=>q▸ap) (l.apart b)
 ·obtain⟨h0,c',h1,h2⟩:=cl hk;exact fun q=>hC (.inr ⟨x,h0,h1.trans (h2.symm.trans (hc.trans (congrArg some (q.trans e2))))⟩)
 ·obtain⟨h0,c1,h1,h2⟩:=cl hk;obtain⟨h3,c2,h4,h5⟩:=cl nI;exact l.inj x y c h0 h3 (h1.trans (h2.symm.trans hc)) (h4.trans (h5.symm.trans Mh))
end
section
theorem ME(S:aU cx ev){jq:Nat→Heap→Prop}{t eT jB:Expr}{fC:List Expr}{scope:Scope}{pos:Pos}{Z:St→Prop}{RR:Value→Addr→Result→SP}
  (aY:au cx k A bG aZ aX s₁)(bD:av cx.P fe m env bG aZ aX.length s₁.heap)(ok:rT fe scope=true)(R3:ob.isFreed=false)
  (W:Walk cx k A s₁.heap.objs.size (fun i _=>some (di all i)) jq bG aZ aX.length)(c0:jq 0 (s₁.heap.push ob))
  (Ez:∀(i:Nat) (s:Shared) (Q:dS) (E:dS),jq i s.heap→Q (.ref s₁.heap.objs.size) s→wpAny cx.M A (pyIter (.ref s₁.heap.objs.size)) Q E s)
  (fin:∀C D I' af st' s',Z st'→aM cx.P (fun _=>False) bG aZ aX.length s₁.heap I' af st' s'.heap→bw s₁ s'→aq I' cx.P af st'.length (.loc aX.length) (.ref D)→Apart I' af st'.length C→s₁.heap.get? C=none→(∃mm,s'.heap.Ns C mm)→RR (.ref D) C (.ok .next) s')
  (g:Good cx.S cx.pre (qW ev k ⟨nk fe scope,[]⟩ (qX scope.names) t eT fC aX.length all (gF (qX scope.names) m) (aX++[.list [] []])) Z):
  wpAny cx.M A (newList []) (fun acc jR=>wpAny cx.M A (newFunctionEnv scope env.globals (scope.names.foldl (gW env) []) [] env.qual none .none (some env)) (fun tV JE=>
   codeAny cx.M A (.compStart (.ListComp eT [⟨t,jB,fC,0⟩] scope pos) 0 (.ref s₁.heap.objs.size) acc {tV with scope:=relabel scope env}) (RR acc tV.locals) JE) E jR) E {s₁ with heap:=s₁.heap.push ob}:=by
 obtain⟨yM,mD,HD,MD⟩:=nu ok;have bQ:=aM.Rr aY.rel ob;have jm:aM cx.P (fun _=>False) bG aZ aX.length s₁.heap bG (gj aZ aX.length (s₁.heap.push ob).objs.size) (aX++[.list [] []]) ((s₁.heap.push ob).push {cls:=.type "list",data:=.seq ([]:LV).toArray}):=
  bQ.trans (aM.zW (ao:=.list [] []) (o:={cls:=.type "list",data:=.seq ([]:LV).toArray}) bQ.rel rfl (.list (pre:=[]) (xs:=[]) 0 (by exact nz) .nil))
 refine wpAny_newList (wpAny_newFunctionEnv (nj mD) (by intro y hy;cases hy) (fun h' ux CN=> ?_) yM);dsimp only at ux CN⊢;generalize Sa:(s₁.heap.push ob).push {cls:=.type "list",dict:=none,data:=.seq ([]:LV).toArray}=H3 at ux CN⊢;have jm:aM cx.P (fun _=>False) bG aZ aX.length s₁.heap bG (gj aZ aX.length (s₁.heap.push ob).objs.size) (aX++[.list [] []]) H3:=Sa▸jm;have kp:∀b o,H3.get? b=some o→h'.get? b=some o:=fun b o e=>(CN.2 b (Nat.ne_of_lt (Heap.lt_size e))).trans (Heap.get?_push_of_some _ e);have wL:=jm.trans (aM.grow jm.rel kp);have aa6:∀tk,au cx k A bG (gj aZ aX.length (s₁.heap.push ob).objs.size) (aX++[.list [] []]) {s₁ with heap:=h',toks:=tk}:=fun tk=>⟨aY.fit,aY.base,wL.rel⟩;have u9:=bD.ext jm;have Wt:=bD.ext wL;have apC:Apart bG (gj aZ aX.length (s₁.heap.push ob).objs.size) (aX++[AO.list [] []]).length H3.objs.size:=⟨jm.rel.OX,fun j hj z=>by
  obtain⟨o,ho⟩:=jm.rel.live hj;rw[z,dD]at ho;exact nn ho⟩
 have MF:¬aF env H3.objs.size:=fun q=>by
  obtain⟨o,ho⟩:=u9.live _ q;rw[dD]at ho;exact nn ho
 have lc:=JJ ok Wt ux apC MF;have itC:s₁.heap.objs.size≠H3.objs.size:=by rw[←Sa,Heap.size_push,Heap.size_push];lia
 have JF:¬aF (compEnvC scope (scope.names.foldl (gW env) []) H3.objs.size env) s₁.heap.objs.size:=fun q=>by
  rcases EW ok Wt q with q|q
  ·exact itC q
  ·obtain⟨o,ho⟩:=bD.live _ q;rw[dD]at ho;exact nn ho
 have itA:∃o,(s₁.heap.push ob).get? s₁.heap.objs.size=some o:=⟨ob,Heap.get?_push_size _ R3⟩;have apI:Apart bG (gj aZ aX.length (s₁.heap.push ob).objs.size) (aX++[AO.list [] []]).length s₁.heap.objs.size:=⟨aY.rel.OX,fun j hj z=>by
  by_cases q:j<aX.length
  ·rw[jz _ q]at z;obtain⟨o,ho⟩:=aY.rel.live q;rw[z,dD]at ho;exact nn ho
  ·have:j=aX.length:=by simp at hj;lia
   rw[this,eH,Heap.size_push]at z;exact absurd z (Nat.succ_ne_self _)⟩
 have cu:jq 0 h':=W.BL c0 fun o e=>kp _ _ (Sa▸Heap.get?_push_of_some _ e);have Dd:s₁.heap.get? H3.objs.size=none:=by
  induction q:s₁.heap.get? H3.objs.size using qe with
  |none=>rfl
  |some o=>
   have:=Heap.lt_size q;rw[←Sa,Heap.size_push,Heap.size_push]at this;exact absurd this (Nat.not_lt.mpr (qy (qK _) (qK _)))
 have loop:∀tk,codeAny cx.M A (.compLoop (.ListComp eT [⟨t,jB,fC,0⟩] scope pos) 0 (.ref s₁.heap.objs.size) (.ref (s₁.heap.push ob).objs.size) (compEnvC scope (scope.names.foldl (gW env) []) H3.objs.size env))
   (RR (.ref (s₁.heap.push ob).objs.size) H3.objs.size) {s₁ with heap:=h',toks:=tk}:=fun tk=>
  Mz S (L:=aX.length) (fun I' af st' s' hz xx sm hd hl ap hn=>fin _ _ I' af st' s' hz (xx.strip fun b q=>by rw[q];exact Dd) sm (by rw[←hd];exact .loc _ hl) ap Dd hn)
   aY.base (aa6 tk) W (dD _) JF wL ⟨rfl,rfl,rfl⟩ cu lc apI (by simp) (eH ..) g
 exact codeAny_compStart_list (loop _) (Ez 0 _ _ _ cu (loop _))
noncomputable def sR(ev:Ev)(k:Nat)(fe:FE)(t eT:Expr)(fC:List Expr)(L:Nat)(v:V)(m:ai)(st:St):iw:=cy (qV fe t v m) fun m'=>
 (DA ev k fe m' st fC).bind fun b=>match b.1 with
  |true=>(ev.e k fe m' b.2 eT).bind fun p=>(xM p.2 L p.1).bind fun st'=>.ok ((.next,m'),st')
  |false=>.ok ((.next,m'),b.2)
theorem Ax:∀{m:ai} {st:St},
  Good S pre (uR (sR ev k fe t eT fC L) (gF names) vs m st) (fun p=>Q p.2)→Good S pre (qW ev k fe names t eT fC L vs m st) Q:=by
 induction vs with
 |nil=>exact fun g=>g
 |cons v vs ih=>
  intro m st g;refine aN (Good.bind (r:=sR ev k fe t eT fC L v m st) g) fun m' e g=> ?_;show Good S pre (cy (qV fe t v m) _) Q;rw[e];refine ng.mpr (Good.mono (fun p hp=> ?_) (Good.bind g));obtain⟨b,aX⟩:=p;induction b using qd with
  |true=>
   refine ng.mpr (Good.mono (fun q hq=> ?_) (Good.bind hp));have Ay:=Good.bind hq;exact ng.mpr (Good.mono (fun st' hs=>ih hs) Ay)
  |false=>exact ih hp
noncomputable def HE(ev:Ev)(k:Nat)(fe:FE)(names:List Str)(t eT:Expr)(fC:List Expr)(L:Nat)(v:V)(m:ai)(st:St):aA St:=match v with
 |.lst vs=>.loop (sR ev k fe t eT fC L) (gF names) vs m st fun q=>.ok q.2
 |.vO n=>.need (n<1000) (.loop (sR ev k fe t eT fC L) (gF names) (intsFrom 0 n) m st fun q=>.ok q.2)
 |.tup vs=>qW ev k fe names t eT fC L vs m st
 |_=>.bad
theorem JL{t eT:Expr}{fC:List Expr}{L:Nat}{Q:St→Prop}{v:V}{m:ai}{st:St}
  (g:Good S pre (HE ev k fe names t eT fC L v m st) Q):∃vs,Jw v=some vs∧BO v∧Good S pre (qW ev k fe names t eT fC L vs m st) Q:=by
 induction v using V.casesOn with
 |lst vs=>exact⟨_,rfl,trivial,Ax (pY g)⟩
 |vO n=>exact⟨_,rfl,g.1,Ax (pY g.2)⟩
 |tup vs=>exact⟨_,rfl,trivial,g⟩
 |_=>exact g.elim
noncomputable def PM{α:Type}(l:List α):Option α:=match l with
 |[]=>none
 |x::l=>fH (Aq l) (some x)
theorem HF{α:Type}{l:List α}{x:α}(h:PM l=some x):l=[x]:=by
 induction l using qh with
 |nil=>exact nn h
 |cons y l=>
  induction l using qh with
  |nil=>exact congrArg (· ::[]) (qc h)
  |cons=>exact nn h
noncomputable def Az(ev:Ev)(k:Nat)(fe:FE)(m:ai)(st:St)(eT:Expr)(gens:List Comprehension)(scope:Scope):aA (V×St):=cy (PM gens) fun g=>dQ (rM g.4 0) (dQ (rT fe scope) (dQ (EM g.2)
 ((ev.e k fe m st g.2).bind fun p=>(HE ev k ⟨nk fe scope,[]⟩ (qX scope.names) g.1 eT g.3 p.2.length p.1 (gF (qX scope.names) m) (p.2++[.list [] []])).bind fun st'=>.ok (.loc p.2.length,st'))))
variable{st:St}
theorem JM{P:Params}{n:Nat}{h:Heap}{scope:Scope}(ok:rT fe scope=true)(l:av P fe m env I σ n h):closureFor scope env=pure (scope.names.foldl (gW env) []):=by
 obtain⟨yM,mD,HD,MD⟩:=nu ok;refine JI fun x hx=> ?_;have h2:=CO MD hx;have h3:env.kindOf x=some .cell:=by show env.scope.names.lookup x=_;rw[l.scope];exact h2
 obtain⟨c,_,h4,_⟩:=l.there x h3;exact⟨c,h4⟩
theorem EX{eT:Expr}{gens:List Comprehension}{scope:Scope}{pos:Pos}{use:Option (Value→Sem Unit)}{Q:dS}{R:V×St→Prop}(S:aU cx ev)(H:au cx k A I σ st s)(l:av cx.P fe m env I σ st.length s.heap)
  (g:Good cx.S cx.pre (Az ev k fe m st eT gens scope) R)
  (h:∀bG aZ aX s₁ C D I' af st' s',aM cx.P (fun _=>False) I σ st.length s.heap bG aZ aX s₁.heap→bw s s₁→au cx k A bG aZ aX s₁→av cx.P fe m env bG aZ aX.length s₁.heap→R (.loc aX.length,st')→
   aM cx.P (fun _=>False) bG aZ aX.length s₁.heap I' af st' s'.heap→bw s₁ s'→aq I' cx.P af st'.length (.loc aX.length) (.ref D)→Apart I' af st'.length C→s₁.heap.get? C=none→(∃mm,s'.heap.Ns C mm)→compPost cx.M A E use Q (.ref D) C (.ok .next) s'):
  wpAny cx.M A (comprehension (.ListComp eT gens scope pos) scope env (firstIterPos gens pos) (newList []) (firstAsync gens) (firstIter gens env) use) Q E s:=by
 refine aN g fun c hc g1=> ?_;obtain⟨t,jB,fC,a⟩:=c;obtain⟨ha,g2⟩:=bA g1;obtain⟨ok,g3⟩:=bA g2;obtain⟨ux,g4⟩:=bA g3;clear g g1 g2 g3;have ha:a=0:=beq_iff_eq.mp ((pB a 0).trans ha);subst ha;rw[HF hc];obtain⟨yM,mD,HD,MD⟩:=nu ok;refine wpAny_comprehension_free (use:=use) rfl (fun x=>vR ux x) (JM ok l) yM (fun x hx hl=>pT HD (by obtain⟨a,b⟩:=x;cases hl;exact hx)) ?_;refine S.ee H l g4 fun bG aZ aX s₁ jk iY aV aO aY bD b9 aQ=> ?_;obtain⟨vs,hv,hp,aQ⟩:=JL (Good.bind aQ);exact Mx aY b9 hv hp fun ob jq R3 W c0 Ez=>ME S (RR:=fun acc C=>compPost cx.M A E use Q acc C) aY bD ok R3 W c0 Ez (fun C D I' af st' s' hz x' CE rD ap dC hn=>h _ _ _ _ C D I' af st' s' aV aO aY bD hz x' CE rD ap dC hn) aQ
theorem Um(S:aU cx ev)(H:au cx k A I σ st s)(l:av cx.P fe m env I σ st.length s.heap)
  (g:Good cx.S cx.pre (Az ev k fe m st eT gens scope) (EV cx I σ st s Q)):wpAny cx.M A (eval (.ListComp eT gens scope pos) env) Q E s:=by
 rw[eval_ListComp];refine EX (use:=none) S H l g fun bG aZ aX s₁ C D I' af st' s' aV aO aY bD hz x' CE rD ap dC hn=> ?_;obtain⟨mm,hn⟩:=hn;refine⟨mm,hn,fun h' hs=>EV.into (p:=(.loc aX.length,st')) hz aV aO I' af _ {s' with heap:=h'} (aM.last (X:=fun _=>False) (x'.weaken fun b q=>q.elim) (h₂:=h') (fun b o hb e=>(hs.2 b hb).trans e) dC ap) CE rD⟩
end
noncomputable def BQ(o:Option Bool):Bool:=match o with
 |some b=>b
 |none=>false
theorem MG(h:BQ o=true):o=some true:=by
 induction o using qe with
 |none=>exact ft h
 |some b=>induction b using qd<;>first|rfl|exact ft h
noncomputable def Wu(v:Expr):Option (Expr×List Comprehension×Scope):=match v with
 |.ListComp e gs sc _=>some (e,gs,sc)
 |_=>none
theorem Un(h:Wu v=some c):∃p,v=.ListComp c.1 c.2.1 c.2.2 p:=by
 induction v using PySem.Expr.casesOn<;>first|exact nn h|(obtain rfl:=qc h;exact⟨_,rfl⟩)
noncomputable def MH(ev:Ev)(k:Nat)(fe:FE)(m:ai)(st:St)(x:Str)(v:Expr):iw:=cy (Wu v) fun c=>dQ (rL fe x) ((Az ev k fe m st c.1 c.2.1 c.2.2).bind fun p=>.ok ((.next,put x p.1 m),p.2))
noncomputable def yN(cx:Cx)(ev:Ev)(k:Nat)(fe:FE)(m:ai)(st:St)(ts:List Expr)(v:Expr)(pos:Pos):iw:=cy (PM ts) fun t=>match Am t with
 |some x=>match BQ (nN (swapsWithSole [t] v pos.line (iK fe.scope)))with
  |true=>MH ev k fe m st x v
  |false=>zz cx ev k fe m st [t] v pos
 |none=>zz cx ev k fe m st [t] v pos
section
variable{st:St}
theorem av.MI(hn:h.Ns C mm)(x:aM P (aF env) I σ n h I' af st' h')(hC:¬aF env C)(ap:Apart I σ n C):h'.Ns C mm:=by
 obtain⟨o,es,ep,ho,r⟩:=hn;exact⟨o,es,ep,x.keep C o ho hC ap.2,r⟩
theorem Dv(S:aU cx ev)(H:au cx k A I σ st s)(l:av cx.P fe m env I σ st.length s.heap)(hs:swapsWithSole [.Name x px] v pos.line env=pure true)
  (g:Good cx.S cx.pre (MH ev k fe m st x v) (EO cx fe env I σ st s Q)):wpAny cx.M A (exec (.Assign [.Name x px] v pos) env) Q E s:=by
 refine aN g fun c hc g1=> ?_;obtain⟨q,hv⟩:=Un hc;obtain⟨h2,g2⟩:=bA g1;rw[exec_Assign_arm];refine wpAny_bind (wpAny_standAt ?_);rw[hs];refine wpAny_bind (wpAny_pure ?_);rw[if_pos rfl,hv];have ee:evalThenUse (.ListComp c.1 c.2.1 c.2.2 q) env (fun v=>assignAll v ((assignEach [.Name x px] env).map (·.2)))=
  (comprehension (.ListComp c.1 c.2.1 c.2.2 q) c.2.2 env (firstIterPos c.2.1 q) (newList []) (firstAsync c.2.1) (firstIter c.2.1 env) (some fun v=>assignAll v ((assignEach [.Name x px] env).map (·.2)))>>=fun _=>pure ()):=rfl
 rw[ee];refine wpAny_bind (wpAny_bind ?_);refine EX S H l (Good.bind g2) fun bG aZ aX s₁ C D I' af st' s' aV aO aY bD hz x' CE rD ap dC hn=> ?_;obtain⟨mm,hn⟩:=hn;have MF:¬aF env C:=fun q=>by
  obtain⟨o,ho⟩:=bD.live _ q;exact nn (dC.symm.trans ho)
 show wpAny cx.M A (assign (.Name x px) env (.ref D)) _ E s';refine wpAny_assign_Name (p5 (aY.go x') (bD.ext x') h2 rD fun wj Wv aa7 Ww=>⟨mm,av.MI hn Wv MF ap,fun h' CN=>wpAny_pure (wpAny_pure ?_)⟩);have kp:∀b o,b≠C→wj.heap.get? b=some o→h'.get? b=some o:=fun b o hb e=>(CN.2 b hb).trans e;exact EO.into (p:=((.next,_),st')) hz aV aO I' af _ {wj with heap:=h'} (aM.last (X:=aF env) (((x'.weaken (Y:=aF env) fun _ q=>q.elim).trans Wv).weaken fun b q=>.inl q) kp dC ap) (CE.trans aa7)
  ⟨.next,Ww.Jq kp MF fun v ⟨o',h1,h2⟩=>by
   obtain⟨o,es,ep,ho,hd,_⟩:=av.MI hn Wv MF ap;rw[ho]at h1;obtain rfl:=qc h1;rw[hd]at h2;cases h2⟩
theorem EY(S:aU cx ev)(H:au cx k A I σ st s)(l:av cx.P fe m env I σ st.length s.heap)(g:Good cx.S cx.pre (yN cx ev k fe m st ts v pos) (EO cx fe env I σ st s Q)):
  wpAny cx.M A (exec (.Assign ts v pos) env) Q E s:=by
 refine aN g fun t ht g=> ?_;rw[HF ht];induction hx:Am t using qe with
 |none=>rw[hx]at g;exact CJ S H l g
 |some x=>
  rw[hx]at g;induction hs:BQ (nN (swapsWithSole [t] v pos.line (iK fe.scope)))using qd with
  |false=>dsimp only at g;rw[hs]at g;exact CJ S H l g
  |true=>
   dsimp only at g;rw[hs]at g;obtain⟨p,rfl⟩:=CH hx;exact Dv S H l (by rw[rR l];exact lz (MG hs)) g
end
noncomputable def EZ(e:Option Expr):Option Str:=cC e fun e=>match e with
 |.Constant c _ _=>match c with
  |.str x=>some x
  |_=>none
 |_=>none
theorem E0(h:EZ e=some x):∃kk p,e=some (.Constant (.str x) kk p):=aK h fun e he h=>by
 rw[he];induction e using PySem.Expr.casesOn with
 |Constant c=>induction c using PySem.Const.casesOn with|str=>obtain rfl:=qc h;exact⟨_,_,rfl⟩|_=>exact nn h
 |_=>exact nn h
noncomputable def mE{α:Type}(l:List α):Option (α×List α):=match l with
 |[]=>none
 |x::l=>some (x,l)
theorem iG{α:Type}{l:List α}{p:α×List α}(h:mE l=some p):l=p.1::p.2:=by
 induction l using qh with
 |nil=>exact nn h
 |cons x l=>rw[←qc h]
noncomputable def BR(ev:Ev)(k:Nat)(fe:FE)(m:ai):List (Option Expr)→List Expr→St→aA (ai×St)
 |[],vs,st=>dQ (eB vs) (.ok ([],st))
 |e::ks,vs,st=>cy (mE vs) fun v=>cy (EZ e) fun x=>(ev.e k fe m st v.1).bind fun p=>(BR ev k fe m ks v.2 p.2).bind fun q=>.ok ((x,p.1)::q.1,q.2)
noncomputable def pairsOk:List (Option Expr)→List Expr→Option Unit
 |[],vs=>fH (eB vs) (some ())
 |e::ks,vs=>cC (mE vs) fun v=>cC (EZ e) fun _=>pairsOk ks v.2
noncomputable def putAll:ai→ai→ai
 |[],acc=>acc
 |p::l,acc=>putAll l (put p.1 p.2 acc)
noncomputable def HG(ev:Ev)(k:Nat)(fe:FE)(m:ai)(st:St)(ks:List (Option Expr))(vs:List Expr):aA (V×St):=dQ (Nat.blt (len ks) 15) (dQ (i8 (eB ks)) (cy (pairsOk ks vs) fun _=>
 (BR ev k fe m ks vs (st++[.dict []])).bind fun p=>cy (dictAt p.2 st.length) fun fs=>dQ (eB fs) (dQ (Nat.blt (len p.1) 300) (.ok (.loc st.length,cD p.2 st.length (.dict (putAll p.1 [])))))))
noncomputable def PN(R:V→Value→Prop):ai→List (Value×Value)→Prop
 |[],ys=>ys=[]
 |p::ps,ys=>∃t y r,ys=(.str p.1 t,y)::r∧R p.2 y∧PN R ps r
noncomputable def rU(pos:Pos)(env:Env):List (Option Expr)→List Expr→List (Sem Value×Sem Value)
 |some k::ks,v::vs=>(eval k env,(do let x ←eval v env;standAt pos;pure x))::rU pos env ks vs
 |_,_=>[]
section
variable{cx:Cx}
theorem GS{pos:Pos}{ks:List (Option Expr)}:∀{vs:List Expr} {u:Unit},pairsOk ks vs=some u→
  (evalEachOpt ks env).zip ((evalEach vs env).map fun v=>do let x ←v;standAt pos;pure x)=(rU pos env ks vs).map (fun p=>(some p.1,p.2))∧(rU pos env ks vs).length=ks.length:=by
 induction ks with
 |nil=>intro vs u g;rw[cH (cP g)];exact⟨rfl,rfl⟩
 |cons e ks ih=>
  intro vs u g;refine aK g fun v hv g=>aK g fun x hx g=> ?_;obtain⟨kk,p,rfl⟩:=E0 hx;rw[iG hv];exact⟨congrArg (List.cons _) (ih g).1,congrArg Nat.succ (ih g).2⟩
theorem PO{pos:Pos}(S:aU cx ev){ks:List (Option Expr)}:∀{vs:List Expr} {I:IM} {σ:Nat→Addr} {st:St} {s:Shared} {α:Type} {R:α→Prop} {f:ai×St→aA α} {Q:List (Value×Value)→SP},
  au cx k A I σ st s→av cx.P fe m env I σ st.length s.heap→Good cx.S cx.pre ((BR ev k fe m ks vs st).bind f) R→
  (∀I' af st' s' ps ys,aM cx.P (fun _=>False) I σ st.length s.heap I' af st' s'.heap→bw s s'→au cx k A I' af st' s'→PN (aq I' cx.P af st'.length) ps ys→Good cx.S cx.pre (f (ps,st')) R→Q ys s')→
  wpAny cx.M A (evalPairs (rU pos env ks vs)) Q E s:=by
 induction ks with
 |nil=>
  intro vs I σ st s α R f Q H l g h;obtain⟨h1,g⟩:=bA (Good.bind g);rw[cH h1];exact wpAny_pure (h I σ st s [] [] (aM.refl H.rel) (bw.refl s) H rfl g)
 |cons e ks ih=>
  intro vs I σ st s α R f Q H l g h;refine aN (Good.bind g) fun q hq g=>aN g fun x hx g=> ?_;obtain⟨kk,p,rfl⟩:=E0 hx;rw[iG hq];refine wpAny_bind (PySem.wpAny_Constant_str (wpAny_bind (wpAny_holding (wpAny_bind (S.ee (s:={s with toks:=s.toks+1}) ⟨H.fit,H.base,H.rel⟩ l g fun bG aZ aX s₁ u y aV aO aY bD b9 aQ=>wpAny_bind (wpAny_standAt (wpAny_pure ?_)))))));exact wpAny_bind (wpAny_holding (ih aY bD aQ fun dj bH bW br ps ys bQ cJ cO jQ fL=>wpAny_pure (h dj bH bW br ((x,u)::ps) _ (aV.trans bQ) (aO.trans cJ) cO ⟨_,_,_,rfl,b9.mono bQ.le,jQ⟩ fL)))
theorem Uo:(put x v l).length≤l.length+1:=by
 induction l with
 |nil=>exact qf _
 |cons p l ih=>
  induction q:seq x p.1 using qd with
  |true=>rw[xJ q];exact qK _
  |false=>rw[rK q];exact Nat.succ_le_succ ih
theorem JN{st:St}(h:L<st.length):dictAt (cD st L (.dict fs)) L=some fs:=by
 rw[dictAt,gI,eK,List.getElem?_set_self h];rfl
theorem set_set{st:St}:cD (cD st L a) L b=cD st L b:=by rw[eK,eK,eK,List.set_set]
theorem BS{st:St}:(cD st L a).length=st.length:=by rw[eK,List.length_set]
theorem PR{st:St}(e:dictAt st L=some fs):cD st L (.dict fs)=st:=by
 obtain⟨_,hg⟩:=List.getElem?_eq_some_iff.mp (pA e);rw[eK,←hg];exact List.set_getElem_self _
theorem PS{I:IM}{σ:Nat→Addr}(hL:L<n):∀{ys:List (Value×Value)} {fs:ai} {st:St} {s:Shared} {Q:PUnit→SP},cF cx.P I σ st s.heap→PN (aq I cx.P σ n) ps ys→st.length=n→dictAt st L=some fs→fs.length+ps.length<400→
  (∀s',aM cx.P (fun _=>False) I σ n s.heap I σ (cD st L (.dict (putAll ps fs))) s'.heap→bw s s'→Q ⟨⟩ s')→wpAny cx.M A (storeAll (σ L) ys) Q E s:=by
 induction ps with
 |nil=>
  intro ys fs st s Q r rp hn e hl h;rw[rp,storeAll,List.forIn_nil];exact wpAny_pure (h s (by show aM _ _ _ _ _ _ _ _ (cD st L (.dict fs)) _;rw[PR e,←hn];exact aM.refl r) (bw.refl s))
 |cons p ps ih=>
  intro ys fs st s Q r rp hn e hl h;obtain⟨t,y,ys,rfl,hv,rp⟩:=rp;rw[List.length_cons]at hl;have pl:=Uo (x:=p.1) (v:=p.2) (l:=fs);rw[storeAll,List.forIn_cons];refine wpAny_bind (wpAny_bind (D9 r (hn▸hv) e (by lia) fun s₁ aV aO=>wpAny_pure ?_));rw[hn]at aV;refine ih aV.rel rp (BS.trans hn) (JN (hn▸hL)) (by lia) fun br bQ cJ=>h br ?_ (aO.trans cJ);have x:=aV.trans (by rw[BS,hn];exact bQ);rw[set_set]at x;exact x
theorem PT{σ:Nat→Addr}{st:St}{s:Shared}{Q:dS}(S:aU cx ev)(H:au cx k A I σ st s)(l:av cx.P fe m env I σ st.length s.heap)
  (g:Good cx.S cx.pre (HG ev k fe m st ks vs) (EV cx I σ st s Q)):wpAny cx.M A (eval (.Dict ks vs pos) env) Q E s:=by
 obtain⟨ly,g1⟩:=bA g;obtain⟨aa8,g2⟩:=bA g1;refine aN g2 fun u bX g=> ?_;clear g1 g2;obtain⟨h1,h2⟩:=GS (env:=env) (pos:=pos) bX;have hl:=lP ly;rw[arm_eval_Dict,h1,dictDisplay_pairs _ (by
  intro z;rw[z]at h2;induction ks using qh with
  |nil=>exact ft aa8
  |cons a b=>exact absurd h2.symm (qS _)) (by rw[h2];exact wg ‹_›)]
 refine wpAny_bind (wpAny_standAt (wpAny_bind (wpAny_subDict_any (by rw[h2];exact qL ‹_›) ?_)));have aV:=aM.zW (ao:=.dict []) (o:={cls:=.type "dict",data:=.dict #[]}) H.rel rfl (.dict (es:=[]) 0 .nil);refine PO S (s:={s with heap:=s.heap.push {cls:=.type "dict",data:=.dict #[]}}) ⟨H.fit,H.base,aV.rel⟩ (l.ext aV) g fun dj bH bW br ps ys bQ cJ cO jQ fL=> ?_;refine aN fL fun fs CQ fL=> ?_;obtain⟨hf,EJ⟩:=bA fL;obtain⟨Sb,EK⟩:=bA EJ;have Sb:=lP Sb;have hL:st.length<bW.length:=(List.getElem?_eq_some_iff.mp (pA CQ)).1;rw[←show bH st.length=s.heap.objs.size from(bQ.le.s st.length (by simp)).trans (eH ..)];rw[cH hf]at CQ;exact PS hL cO.rel jQ rfl CQ (by rw[List.length_nil];lia) fun jR jm qU=>wpAny_pure (EK dj bH _ jR ((aV.trans bQ).trans jm) (cJ.trans qU) (.loc _ (by rw[BS];exact hL)))
noncomputable def Sf(ev:Ev)(k:Nat)(fe:FE)(m:ai)(st:St)(body:List Stmt)(hs:List ExceptHandler)(jC JO:List Stmt):iw:=dQ (i8 (eB hs)) (dQ (eB jC) (dQ (eB JO) (ev.b k fe m st body)))
theorem Wx{I:IM}{σ:Nat→Addr}{st:St}{s:Shared}{Q:Flow→SP}(S:aU cx ev)(H:au cx k A I σ st s)(l:av cx.P fe m env I σ st.length s.heap)
  (g:Good cx.S cx.pre (Sf ev k fe m st body hs jC JO) (EO cx fe env I σ st s Q)):wpAny cx.M A (exec (.Try body hs jC JO pos) env) Q E s:=by
 obtain⟨q1,g1⟩:=bA g;obtain⟨q2,g2⟩:=bA g1;obtain⟨q3,g3⟩:=bA g2;clear g g1 g2;rw[cH q2,cH q3];induction hs using qh with
 |nil=>exact ft q1
 |cons=>
  refine wpAny_Try_except (S.b H l (Good.mono (fun p gp I' af f s' x sm ro=> ?_) g3));have q:=gp I' af f s' x sm ro;induction f using PySem.Flow.casesOn<;>first|exact wpAny_execs_nil q|exact q
end
noncomputable def Wy:Option Bool→Value→Bool
 |none,.none=>true
 |some b,.bool c=>b==c
 |_,_=>false
noncomputable def sS:Option Bool→Int
 |none=>0xFCA86420
 |some true=>1
 |some false=>0
theorem lD(h:Wy k v=true):(k=none∧v=.none)∨∃b,k=some b∧v=.bool b:=by
 induction k using qe with
 |none=>induction v using PySem.Value.casesOn<;>first|exact .inl ⟨rfl,rfl⟩|exact ft h
 |some b=>
  induction v using PySem.Value.casesOn<;>try (exact ft h;done)
  rename_i c
  exact .inr ⟨b,rfl,by rw[beq_iff_eq.mp (show(b==c)=true from h)]⟩
section
theorem MJ(h:Q 0xFCA86420 {s with toks:=s.toks+1}):wpAny (model prog w) A (pyHash .none) Q E s:=by
 have hT:s.TypeIs .none "NoneType":=rfl;unfold pyHash;have hv:[Value.none].any Value.onHeap=false:=rfl;refine wpAny_bind ?_;rw[cRoomFor,if_neg (by rw[hv];exact qE)];refine wpAny_pure ?_;refine wpAny_bind (wpAny_specialOf hT F.slot_NoneType_hash.lookup ?_);show wpAny _ _ (if(some (Value.builtin "NoneType.__hash__")==some Value.none)=true then _ else _) Q E s;rw[if_neg (by rw[beq_builtin_none];exact qE)];refine wpAny_bind (wpAny_specialOf hT F.slot_NoneType_hash.lookup ?_);show wpAny _ _ (callSpecialIfBoundUnlessNone? .none "__hash__" _>>=_) Q E s;refine wpAny_bind (wpAny_callSpecialIfBoundUnlessNone?_slot hT F.slot_NoneType_hash
  (wpAny_call_entry F.slot_NoneType_hash hT F.entry_NoneType_hash
   (show wpAny _ _ (do ret (←mkInt 0xFCA86420)) _ _ s from wpAny_ret_mkInt ?_) (F.args_NoneType_hash_1 _)))
 show wpAny _ _ (if(decide (-(2:Int)^63≤0xFCA86420)&&decide ((0xFCA86420:Int)<2^63))=true then _ else _) Q E _;rw[if_pos (by decide)];exact wpAny_pure h
theorem MK(h:Q (sS (some b)) {s with toks:=s.toks+1}):wpAny (model prog w) A (pyHash (.bool b)) Q E s:=by
 have hT:s.TypeIs (.bool b) "bool":=rfl;have key:∀{Q:dS} {E:dS},Q (.int (sS (some b)) s.toks) {s with toks:=s.toks+1}→wpAny (model prog w) A.in1 (Builtin.«int.__hash__» ⟨[.bool b],[]⟩) (fun fin s'=>∃v,fin=Fin.done (Flow.ret v)∧Q v s') E s:=fun{Q E} hq=>by
  induction b using qd with
  |true=>exact(show wpAny _ _ (do ret (←mkInt 1)) _ _ s from wpAny_ret_mkInt hq)
  |false=>exact(show wpAny _ _ (do ret (←mkInt 0)) _ _ s from wpAny_ret_mkInt hq)
 unfold pyHash;have hv:[Value.bool b].any Value.onHeap=false:=rfl;refine wpAny_bind ?_;rw[cRoomFor,if_neg (by rw[hv];exact qE)];refine wpAny_pure ?_;refine wpAny_bind (wpAny_specialOf hT F.slot_bool_hash.lookup ?_);show wpAny _ _ (if(some (Value.builtin "int.__hash__")==some Value.none)=true then _ else _) Q E s;rw[if_neg (by rw[beq_builtin_none];exact qE)];refine wpAny_bind (wpAny_specialOf hT F.slot_bool_hash.lookup ?_);show wpAny _ _ (callSpecialIfBoundUnlessNone? (.bool b) "__hash__" _>>=_) Q E s;refine wpAny_bind (wpAny_callSpecialIfBoundUnlessNone?_slot hT F.slot_bool_hash
  (wpAny_call_entry F.slot_bool_hash hT entry_int_hash
   (key ?_) (args_int_hash _)))
 show wpAny _ _ (if(decide (-(2:Int)^63≤sS (some b))&&decide (sS (some b)<2^63))=true then _ else _) Q E _;rw[if_pos (by induction b using qd<;>decide)]
 refine wpAny_pure ?_;have e:(if(sS (some b)== -1)=true then-2 else sS (some b))=sS (some b):=by induction b using qd<;>rfl
 rw[e];exact h
end
noncomputable def Sg(prog:Program)(w:World):KeyKind prog w (Option Bool)where
 is:=Wy
 hash:=sS
 inj:=fun v a b ha hb=>by
  rcases lD ha with⟨rfl,rfl⟩|⟨x,rfl,rfl⟩<;>rcases lD hb with⟨rfl,e⟩|⟨y,rfl,e⟩<;>first|rfl|(cases e;done)|(cases e;rfl)
 byValue:=fun k v h=>by rcases lD h with⟨rfl,rfl⟩|⟨x,rfl,rfl⟩<;>rfl
 pyHash:=fun hv h=>by
  rcases lD hv with⟨rfl,rfl⟩|⟨x,rfl,rfl⟩
  ·exact MJ h
  ·exact MK h
 eqBool:=fun{A E s a b u v Q} hu hv h=>by
  rcases lD hu with⟨rfl,rfl⟩|⟨x,rfl,rfl⟩<;>rcases lD hv with⟨rfl,rfl⟩|⟨y,rfl,rfl⟩
  ·exact EqAt.same _ _ _ _ _ h
  ·exact EqAt.none_bool _ _ _ _ _ h
  ·exact EqAt.bool_none _ _ _ _ _ h
  ·refine EqAt.bool_bool _ _ _ _ _ _ ?_;have e:(x==y)=decide (some x=some y):=by induction x using qd<;>induction y using qd<;>rfl
   rw[e];exact h
 «strs»:=fun k x t v h=>by rcases lD h with⟨_,e⟩|⟨_,_,e⟩<;>cases e
noncomputable def PU(o:Option Expr):Option (Option Bool):=cC o fun e=>match e with
 |.Constant c _ _=>match c with
  |.none=>some none
  |.bool b=>some (some b)
  |_=>none
 |_=>none
theorem BU(h:PU o=some k):∃a b,o=some (.Constant (match k with|none=>.none|some x=>.bool x) a b):=aK h fun e he h=>by
 rw[he];induction e using PySem.Expr.casesOn with
 |Constant c=>
  induction c using PySem.Const.casesOn with
  |none=>rw[←qc h];exact⟨_,_,rfl⟩
  |bool b=>rw[←qc h];exact⟨_,_,rfl⟩
  |_=>exact nn h
 |_=>exact nn h
noncomputable def zC(e:Expr):Option V:=match e with
 |.Constant c _ _=>match c with
  |.int i=>some (.int i)
  |.str x=>some (.str x)
  |_=>none
 |_=>none
noncomputable def vals3(vs:List Expr):Option (V×V×V):=cC (mE vs) fun a=>cC (zC a.1) fun x=>cC (mE a.2) fun b=>cC (zC b.1) fun y=>cC (mE b.2) fun c=>cC (zC c.1) fun z=>fH (eB c.2) (some (x,y,z))
theorem PV(h:vals3 vs=some p):∃a b c,vs=[a,b,c]∧zC a=some p.1∧zC b=some p.2.1∧zC c=some p.2.2:=
 aK h fun a ha h=>aK h fun x hx h=>aK h fun b hb h=>aK h fun y hy h=>aK h fun c hc h=>aK h fun z hz h=>by
  rw[←qc (cW h)];exact⟨a.1,b.1,c.1,by rw[iG ha,iG hb,iG hc,cH (cP h)],hx,hy,hz⟩
noncomputable def Wz(p:V×V×V)(v:V):Option V:=match v with
 |.bool x=>match x with
  |true=>some p.1
  |false=>some p.2.1
 |.none=>some p.2.2
 |_=>none
noncomputable def WA(ks:List (Option Expr)):Bool:=decide (ks.map PU=[some (some true),some (some false),some none])
noncomputable def ML(ev:Ev)(k:Nat)(fe:FE)(m:ai)(st:St)(ks:List (Option Expr))(vs:List Expr)(i:Expr):aA (V×St):=dQ (WA ks) (cy (vals3 vs) fun p=>(ev.e k fe m st i).bind fun q=>cy (Wz p q.1) fun u=>.ok (u,q.2))
section
variable{cx:Cx}{st:St}
theorem BV(h:zC e=some v)(hQ:∀y t,(∀(I:IM) (P:Params) (σ:Nat→Addr) (n:Nat),aq I P σ n v y)→Q y {s with toks:=t}):
  wpAny cx.M A (do let x ←eval e env;standAt pos;pure x) Q E s:=by
 induction e using PySem.Expr.casesOn with
 |Constant c=>
  induction c using PySem.Const.casesOn with
  |int=>exact wpAny_bind (wpAny_Constant_int (wpAny_bind (wpAny_standAt (wpAny_pure (hQ _ _ fun _ _ _ _=>qc h▸.int _ _)))))
  |str=>exact wpAny_bind (PySem.wpAny_Constant_str (wpAny_bind (wpAny_standAt (wpAny_pure (hQ _ _ fun _ _ _ _=>qc h▸.str _ _)))))
  |_=>exact nn h
 |_=>exact nn h
theorem Up(h:Wz p v=some u)(r:aq I P σ n v y)(e1:∀(I:IM) (P:Params) (σ:Nat→Addr) (n:Nat),aq I P σ n p.1 y1)
  (e2:∀(I:IM) (P:Params) (σ:Nat→Addr) (n:Nat),aq I P σ n p.2.1 y2)(e3:∀(I:IM) (P:Params) (σ:Nat→Addr) (n:Nat),aq I P σ n p.2.2 y3):
  ∃kk z,Wy kk y=true∧valueAt [(some true,y1),(some false,y2),(none,y3)] kk=some z∧aq I P σ n u z:=by
 replace r:=r.inv;induction v using V.casesOn with
 |bool x=>
  subst r;induction x using qd with
  |true=>exact⟨some true,y1,rfl,rfl,qc h▸e1 ..⟩
  |false=>exact⟨some false,y2,rfl,rfl,qc h▸e2 ..⟩
 |none=>subst r;exact⟨none,y3,rfl,rfl,qc h▸e3 ..⟩
 |_=>exact nn h
theorem PW(h:ks.map PU=[some (some true),some (some false),some none]):∃a1 b1 a2 b2 a3 b3,ks=[some (.Constant (.bool true) a1 b1),some (.Constant (.bool false) a2 b2),some (.Constant .none a3 b3)]:=by
 obtain⟨x1,r1,rfl,q1,h1⟩:=List.map_eq_cons_iff.mp h;obtain⟨x2,r2,rfl,q2,h2⟩:=List.map_eq_cons_iff.mp h1;obtain⟨x3,r3,rfl,q3,h3⟩:=List.map_eq_cons_iff.mp h2;obtain⟨a1,b1,rfl⟩:=BU q1;obtain⟨a2,b2,rfl⟩:=BU q2;obtain⟨a3,b3,rfl⟩:=BU q3;exact⟨a1,b1,a2,b2,a3,b3,by rw[List.map_eq_nil_iff.mp h3]⟩
theorem Uq(S:aU cx ev)(H:au cx k A I σ st s)(l:av cx.P fe m env I σ st.length s.heap)
  (g:Good cx.S cx.pre (ML ev k fe m st ks vs i) (EV cx I σ st s Q)):wpAny cx.M A (eval (.Subscript (.Dict ks vs aa9) i pos) env) Q E s:=by
 obtain⟨hk,g⟩:=bA g;refine aN g fun p hp g=> ?_;obtain⟨a1,b1,a2,b2,a3,b3,ek⟩:=PW (of_decide_eq_true hk);obtain⟨v1,v2,v3,ew,r1,r2,r3⟩:=PV hp;rw[ek,ew];refine Subscript_ (wpAny_Dict_pairs (knd:=Sg cx.prog cx.w) (pairs:=rU aa9 env [some (.Constant (.bool true) a1 b1),some (.Constant (.bool false) a2 b2),some (.Constant .none a3 b3)] [v1,v2,v3]) rfl (by intro z;cases z) (by show 3≤15;decide) (evalPairs_cons (wpAny_Constant_bool (BV r1 fun y1 t1 e1=>evalPairs_cons (wpAny_Constant_bool (BV r2 fun y2 t2 e2=>
  evalPairs_cons (wpAny_Constant_none (BV r3 fun y3 t3 e3=>evalPairs_nil ⟨[(some true,y1),(some false,y2),(none,y3)],⟨rfl,rfl,rfl,rfl,rfl,rfl,trivial⟩,Heap.DictOf.new _,fun h' hm hs=> ?_⟩))))))))
 have CG:(([(some true,y1),(some false,y2),(none,y3)]:List (Option Bool×Value)).map (·.1)).Nodup:=by show([some true,some false,none]:List (Option Bool)).Nodup;decide
 rw[merged_nil_of_nodup _ CG]at hm;have xg:=aM.grow H.rel fun b o e=>(hs.2 b (Nat.ne_of_lt (Heap.lt_size e))).trans (Heap.get?_push_of_some _ e);refine S.ee (H.go (s':={s with heap:=h',toks:=t3+3}) xg) (l.ext xg) g fun bG aZ aX s₁ v y aV aO aY bD rv aQ=>aN aQ fun u hu aQ=> ?_;have mo:=(hm.at (h':=s₁.heap) fun o e=>aV.keep _ o e (fun q=>q) fun j hj z=>by
  obtain⟨o',ho⟩:=H.rel.live hj;rw[z,dD]at ho;exact nn ho).mapOf
 obtain⟨kk,z,hk,hv,ru⟩:=Up hu rv e1 e2 e3;obtain⟨nK,pR⟩:=g9 i (.ref s.heap.objs.size) y;exact tail_any (T:="dict") mo.typeIs slot_dict_getitem.lookup (wpAny_getItem_of (knd:=Sg cx.prog cx.w) hk mo hv (EV.tok (EV.into aQ (xg.trans aV) aO) aY ru _)) pR
end
noncomputable def E1(ev:Ev)(k:Nat)(fe:FE)(m:ai)(st:St)(v i:Expr):aA (V×St):=match v with
 |.Dict ks vs dp=>match WA ks with
  |true=>ML ev k fe m st ks vs i
  |false=>zv ev k fe m st (.Dict ks vs dp) i
 |v=>zv ev k fe m st v i
theorem Ur{cx:Cx}{ev:Ev}{k:Nat}{A:Around}{I:IM}{σ:Nat→Addr}{st:St}(S:aU cx ev)(H:au cx k A I σ st s)(l:av cx.P fe m env I σ st.length s.heap)(g:Good cx.S cx.pre (E1 ev k fe m st v i) (EV cx I σ st s Q)):
  wpAny cx.M A (eval (.Subscript v i pos) env) Q E s:=by
 induction v using PySem.Expr.casesOn with
 |Dict ks vs dp=>
  unfold E1 at g;dsimp only at g;induction q:WA ks using qd with
  |true=>rw[q]at g;exact Uq S H l g
  |false=>rw[q]at g;exact CB S H l g
 |_=>exact CB S H l g
noncomputable def Sh(cx:Cx)(ev:Ev)(k:Nat)(fe:FE)(m:ai)(st:St)(x:Expr):aA (V×St):=match x with
 |.Constant c _ _=>lu st (L3 c)
 |.Name x _=>L4 cx fe m st x
 |.Attribute v a _=>L5 cx ev k fe m st v a
 |.Subscript v i _=>E1 ev k fe m st v i
 |.Call f as ks pos=>Mr cx ev k fe m st f as ks pos
 |.BinOp l op r _=>RK ev k fe m st op l r
 |.Compare l nK rs _=>match nK with
  |[op]=>match rs with
   |[r]=>Ah ev k fe m st l op r
   |_=>.bad
  |_=>.bad
 |.UnaryOp op x _=>match op with
  |.Not=>RL ev k fe m st x
  |.USub=>RM ev k fe m st x
  |_=>.bad
 |.IfExp t a b _=>RN ev k fe m st t a b
 |.Tuple es _ _=>RO ev k fe m st es
 |.List es _=>L6 ev k fe m st es
 |.BoolOp op xs _=>match xs with
  |[x,y]=>match op with
   |.And=>RP ev k fe m st x y
   |.Or=>V3 ev k fe m st x y
  |_=>.bad
 |.ListComp e gs sc _=>Az ev k fe m st e gs sc
 |.Dict ks vs _=>match ks with
  |[]=>match vs with
   |[]=>Hj st
   |_::_=>.bad
  |_::_=>HG ev k fe m st ks vs
 |_=>.bad
noncomputable def iB(cx:Cx)(ev:Ev)(k:Nat)(fe:FE)(m:ai)(st:St)(x:Stmt):iw:=match x with
 |.Expr e pos=>Mt ev k fe m st e pos
 |.Return e _=>RU ev k fe m st e
 |.If t a b _=>Wi ev k fe m st t a b
 |.Assign ts v pos=>yN cx ev k fe m st ts v pos
 |.AugAssign t op v _=>RW cx ev k fe m st t op v
 |.For t i b o _=>RZ ev k fe m st t i b o
 |.While t b o _=>HA ev k fe m st t b o
 |.Pass _=>.ok ((.next,m),st)
 |.Try b hs o f _=>Sf ev k fe m st b hs o f
 |_=>.bad
noncomputable def Si(cx:Cx)(ev:Ev)(k:Nat)(fe:FE)(m:ai)(st:St)(xs:List Stmt):iw:=match xs with
 |[]=>.ok ((.next,m),st)
 |x::r=>(iB cx ev k fe m st x).bind fun p=>match p.1.1 with
  |.next=>ev.b k fe p.1.2 p.2 r
  |_=>.ok p
noncomputable def cX(cx:Cx):Nat→Ev
 |0=>⟨fun _ _ _ _ _=>.bad,fun _ _ _ _ _=>.bad,fun _ _ _ _ _=>.bad,fun _ _ _ _=>.bad⟩
 |n+1=>⟨Sh cx (cX cx n),stepT (cX cx n),Si cx (cX cx n),RT cx (cX cx n)⟩
section
variable{st:St}
theorem PX(H:au cx k A I σ st s)(g:Good cx.S cx.pre (Hj st) (EV cx I σ st s Q)):wpAny cx.M A (eval (.Dict [] [] pos) env) Q E s:=by
 refine wpAny_Dict_empty ?_;exact EV.Bu g H rfl s.toks (.dict (es:=[]) 0 .nil)
theorem PY(S:aU cx ev)(H:au cx k A I σ st s)(l:av cx.P fe m env I σ st.length s.heap)(g:Good cx.S cx.pre (Sh cx ev k fe m st x) (EV cx I σ st s Q)):
  wpAny cx.M A (eval x env) Q E s:=by
 induction x using PySem.Expr.casesOn with
 |Constant c=>exact Ph H g
 |Name=>exact TN H l g
 |Attribute=>exact TP S H l g
 |Subscript=>exact Ur S H l g
 |Call=>exact Ug S H l g
 |BinOp=>exact Pk S H l g
 |Compare e nK rs=>induction nK using qh with
  |nil=>exact g.elim
  |cons op nK=>induction nK using qh with
   |cons=>exact g.elim
   |nil=>induction rs using qh with
    |nil=>exact g.elim
    |cons r rs=>induction rs using qh with
     |nil=>exact TQ S H l g
     |cons=>exact g.elim
 |UnaryOp op=>induction op using PySem.UnaryOp.casesOn with
  |Not=>exact V6 S H l g
  |USub=>exact V7 S H l g
  |_=>exact g.elim
 |IfExp=>exact V8 S H l g
 |Tuple=>exact V9 S H l g
 |List=>exact TS S H l g
 |BoolOp op xs=>induction xs using qh with
  |nil=>exact g.elim
  |cons x xs=>induction xs using qh with
   |nil=>exact g.elim
   |cons y xs=>induction xs using qh with
    |nil=>induction op using PySem.BoolOp.casesOn with
     |And=>exact Wa S H l g
     |Or=>exact Ze S H l g
    |cons=>exact g.elim
 |ListComp=>exact Um S H l g
 |Dict ks vs=>induction ks using qh with
  |nil=>induction vs using qh with
   |nil=>exact PX H g
   |cons=>exact g.elim
  |cons=>exact PT S H l g
 |_=>exact g.elim
theorem m5(S:aU cx ev)(H:au cx k A I σ st s)(l:av cx.P fe m env I σ st.length s.heap)(g:Good cx.S cx.pre (iB cx ev k fe m st x) (EO cx fe env I σ st s Q)):
  wpAny cx.M A (exec x env) Q E s:=by
 induction x using PySem.Stmt.casesOn with
 |Expr=>exact Uh S H l g
 |Return=>exact Wj S H l g
 |If=>exact Zi S H l g
 |Assign=>exact EY S H l g
 |AugAssign=>exact Wk S H l g
 |For=>exact Wo S H l g
 |While=>exact PJ S H l g
 |Pass=>exact wpAny_Pass (EO.here g (aM.refl H.rel) (bw.refl s) .next l)
 |Try=>exact Wx S H l g
 |_=>exact g.elim
theorem PZ(S:aU cx ev)(H:au cx k A I σ st s)(l:av cx.P fe m env I σ st.length s.heap)(g:Good cx.S cx.pre (Si cx ev k fe m st xs) (EO cx fe env I σ st s Q)):
  wpAny cx.M A (execs xs env) Q E s:=by
 induction xs using qh with
 |nil=>exact wpAny_execs_nil (EO.here g (aM.refl H.rel) (bw.refl s) .next l)
 |cons x xs=>
  refine wpAny_execs_cons (m5 S H l (Good.mono (fun p gp bG aZ f s₁ aV aO ro=> ?_) (Good.bind g)));obtain⟨⟨out,m₁⟩,aX⟩:=p;obtain⟨ro,bD⟩:=ro;induction out using Out.casesOn with
  |next=>obtain rfl:=ro;exact S.b (H.go aV) bD (Good.mono (fun q gq=>EO.Zh gq aV aO) gp)
  |brk=>obtain rfl:=ro;exact gp bG aZ _ s₁ aV aO ⟨.brk,bD⟩
  |cont=>obtain rfl:=ro;exact gp bG aZ _ s₁ aV aO ⟨.cont,bD⟩
  |ret u=>obtain⟨_,rfl,hh⟩:=ro;exact gp bG aZ _ s₁ aV aO ⟨.ret hh,bD⟩
theorem eY(K:Kept cx):∀n,aU cx (cX cx n)
 |0=>⟨fun _ _ g=>g.elim,fun _ _ g=>g.elim,fun _ _ g=>g.elim,fun _ _ _ g=>g.elim⟩
 |n+1=>⟨fun H l g=>PY (eY K n) H l g,fun H l g=>Pn (eY K n) H l g,fun H l g=>PZ (eY K n) H l g,fun H rf r g=>PB K (eY K n) H rf r g⟩
end
end
noncomputable def wM:List Stmt:=PySem.Challenge.pw_on0142_01.main.body
noncomputable def bV(i:Nat):Option Stmt:=di wM i
noncomputable def cQ(i j:Nat):Option Stmt:=match di wM i with
 |some s=>match s with
  |.ClassDef _ _ _ body _ _ _ _ _ _ _=>di body j
  |_=>none
 |none=>none
noncomputable def P0(nm q:Str)(s:Option Stmt)(G5 code pm:Value):FuncData:=match s with
 |some s=>match s with
  |.FunctionDef _ a b _ _ _ sc _ _ _=>{name:=nm,qualname:=q,params:=a,body:=.stmts b,scope:=sc,globals:=mainGlobals,closure:=[],defaults:=G5,kwdefaults:=.none,pyModule:=pm,code:=code,builtins:=builtinsNs}
  |_=>default
 |none=>default
noncomputable def yO(pm:Value)(nm q:Str)(s:Option Stmt)(G5:Value)(code:Nat):FuncData:=P0 nm q s G5 (.ref code) pm
noncomputable def pm0:=yO (.str "__main__" 164)
noncomputable def iU:=yO (.str "gemrows.things" 194)
noncomputable def WB:=yO (.str "gemrows.errors" 713)
noncomputable def nP:=yO (.str "gemrows.walk" 809)
noncomputable def pm4:=yO (.str "gemrows.nodes" 1064)
noncomputable def HH:=yO (.str "gemrows.walkmatch" 1339)
noncomputable def yP:=yO (.str "gemrows.walkflow" 1422)
noncomputable def pm7:=yO (.str "gemrows.lines" 1544)
noncomputable def gX:=yO (.str "gemrows.world" 1562)
noncomputable def kM:=yO (.str "law_on0142_01" 2060)
noncomputable def DB:FuncData:=iU "show" "show" (bV 30) (.ref 338) 344
noncomputable def sU:FuncData:=nP "run" "Walker.run" (cQ 40 11) .none 558
noncomputable def E2:FuncData:=kM "_law_take" "_law_take" (bV 77) .none 1126
noncomputable def rV:FuncData:=kM "_law_value" "_law_value" (bV 78) .none 1133
noncomputable def E3:FuncData:=kM "_law_leaf" "_law_leaf" (bV 80) .none 1147
noncomputable def E4:FuncData:=kM "_law_test" "_law_test" (bV 81) .none 1152
noncomputable def AA:FuncData:=kM "_law_whens" "_law_whens" (bV 82) .none 1157
noncomputable def E5:FuncData:=kM "_law_pattern" "_law_pattern" (bV 83) .none 1162
noncomputable def AB:FuncData:=kM "_law_arms" "_law_arms" (bV 84) .none 1169
noncomputable def E6:FuncData:=kM "_law_node" "_law_node" (bV 85) .none 1174
noncomputable def AD:FuncData:=kM "_law_asked" "_law_asked" (bV 87) .none 1188
noncomputable def wN:FuncData:=kM "_law_guard" "_law_guard" (bV 89) .none 1202
noncomputable def iL:FuncData:=kM "_law_read" "_law_read" (bV 90) .none 1209
noncomputable def E7:FuncData:=kM "_law_tested" "_law_tested" (bV 92) .none 1223
noncomputable def pG:FuncData:=kM "_law_fits" "_law_fits" (bV 94) .none 1237
noncomputable def nQ:FuncData:=kM "_law_kinds" "_law_kinds" (bV 98) .none 1265
noncomputable def rW:FuncData:=kM "law" "law" (bV 99) .none 1272
noncomputable abbrev aT(s:Str):Str×AK:=(s,.plain)
noncomputable abbrev cS(s:Str)(a:Addr):Str×AK:=(s,.zg a)
noncomputable abbrev bK(s:Str)(a:Addr):Str×V:=(s,.top a)
noncomputable abbrev E8(s:Str):Str×V:=(s,.tup [])
noncomputable abbrev eF(s x:Str):Str×V:=(s,.str x)
noncomputable def rX:List (Addr×FuncData×List V):=[
 (21,pm0 "_wall" "_wall" (bV 0) .none 20,[]),
 (37,iU "__init__" "Thing.__init__" (cQ 5 0) .none 36,[]),
 (59,iU "__init__" "Text.__init__" (cQ 6 0) (.ref 52) 58,[V.str ""]),
 (79,iU "__init__" "ListThing.__init__" (cQ 7 0) (.ref 72) 78,[V.none]),
 (98,iU "__init__" "TableThing.__init__" (cQ 8 0) .none 97,[]),
 (105,iU "put" "TableThing.put" (cQ 8 1) .none 104,[]),
 (112,iU "row" "TableThing.row" (cQ 8 2) .none 111,[]),
 (117,iU "pairs" "TableThing.pairs" (cQ 8 3) .none 116,[]),
 (137,iU "__init__" "RangeThing.__init__" (cQ 9 0) (.ref 130) 136,[V.none,V.none,V.bool false]),
 (158,iU "__init__" "ProcThing.__init__" (cQ 10 0) (.ref 151) 157,[V.none,V.none,V.none,V.none,V.tup [],V.none,V.none,V.bool false,V.none]),
 (178,iU "__init__" "ErrorThing.__init__" (cQ 11 0) (.ref 171) 177,[V.none]),
 (198,iU "__init__" "FiberThing.__init__" (cQ 12 0) (.ref 191) 197,[V.none]),
 (218,iU "__init__" "ModuleThing.__init__" (cQ 13 0) (.ref 211) 217,[V.none,V.bool false,V.none,V.none]),
 (225,iU "is_own" "ModuleThing.is_own" (cQ 13 1) .none 224,[]),
 (237,iU "is_int" "is_int" (bV 14) .none 236,[]),
 (244,iU "truth" "truth" (bV 15) .none 243,[]),
 (251,iU "sort_of" "sort_of" (bV 16) .none 250,[]),
 (258,iU "same" "same" (bV 17) .none 257,[]),
 (264,iU "code_of" "code_of" (bV 18) (.ref 259) 263,[V.int (12)]),
 (271,iU "is_word" "is_word" (bV 19) .none 270,[]),
 (278,iU "is_label" "is_label" (bV 20) .none 277,[]),
 (285,iU "is_plain_symbol" "is_plain_symbol" (bV 21) .none 284,[]),
 (292,iU "full_name" "full_name" (bV 22) .none 291,[]),
 (299,iU "show_letter" "show_letter" (bV 23) .none 298,[]),
 (304,iU "show_text" "show_text" (bV 24) .none 303,[]),
 (311,iU "show_symbol" "show_symbol" (bV 25) .none 310,[]),
 (318,iU "show_pair" "show_pair" (bV 26) .none 317,[]),
 (325,iU "show_range" "show_range" (bV 27) .none 324,[]),
 (330,iU "show_thing" "show_thing" (bV 28) .none 329,[]),
 (337,iU "show_error" "show_error" (bV 29) .none 336,[]),
 (345,DB,[V.int (6)]),
 (360,WB "__init__" "GemError.__init__" (cQ 32 0) (.ref 353) 359,[V.str ""]),
 (392,WB "__init__" "StepsOver.__init__" (cQ 34 0) .none 391,[]),
 (411,WB "__init__" "Raised.__init__" (cQ 35 0) .none 410,[]),
 (423,nP "give_cause" "give_cause" (bV 37) .none 422,[]),
 (438,nP "__init__" "Way.__init__" (cQ 38 0) (.ref 431) 437,[V.none,V.none]),
 (460,nP "__init__" "Task.__init__" (cQ 39 0) (.ref 453) 459,[V.none]),
 (481,nP "__init__" "Walker.__init__" (cQ 40 0) .none 480,[]),
 (488,nP "enter" "Walker.enter" (cQ 40 1) .none 487,[]),
 (495,nP "go" "Walker.go" (cQ 40 2) .none 494,[]),
 (503,nP "send" "Walker.send" (cQ 40 3) (.ref 496) 502,[V.none,V.str "call",V.none]),
 (510,nP "done" "Walker.done" (cQ 40 4) .none 509,[]),
 (517,nP "leave" "Walker.leave" (cQ 40 5) .none 516,[]),
 (524,nP "deliver" "Walker.deliver" (cQ 40 6) .none 523,[]),
 (531,nP "going" "Walker.going" (cQ 40 7) .none 530,[]),
 (538,nP "raise_error" "Walker.raise_error" (cQ 40 8) .none 537,[]),
 (545,nP "fail" "Walker.fail" (cQ 40 9) .none 544,[]),
 (552,nP "step" "Walker.step" (cQ 40 10) .none 551,[]),
 (559,sU,[]),
 (573,nP "do_nil" "do_nil" (bV 41) .none 572,[]),
 (580,nP "do_values" "do_values" (bV 42) .none 579,[]),
 (587,nP "do_array" "do_array" (bV 43) .none 586,[]),
 (594,nP "do_seq" "do_seq" (bV 44) .none 593,[]),
 (677,pm4 "__init__" "Node.__init__" (cQ 47 0) (.ref 670) 676,[V.tup [],V.int (0)]),
 (684,pm4 "part" "Node.part" (cQ 47 1) .none 683,[]),
 (705,HH "__init__" "Match.__init__" (cQ 49 0) .none 704,[]),
 (719,HH "enter_pattern" "enter_pattern" (bV 50) .none 718,[]),
 (726,HH "bind_local" "bind_local" (bV 51) .none 725,[]),
 (733,HH "p_value" "p_value" (bV 52) .none 732,[]),
 (740,HH "p_bind" "p_bind" (bV 53) .none 739,[]),
 (747,HH "p_alt" "p_alt" (bV 54) .none 746,[]),
 (761,yP "__init__" "Choice.__init__" (cQ 56 0) .none 760,[]),
 (775,yP "case" "case" (bV 57) .none 774,[]),
 (782,yP "ask_test" "ask_test" (bV 58) .none 781,[]),
 (789,yP "ask_value" "ask_value" (bV 59) .none 788,[]),
 (796,yP "case_body" "case_body" (bV 60) .none 795,[]),
 (803,yP "casein" "casein" (bV 61) .none 802,[]),
 (810,yP "next_arm" "next_arm" (bV 62) .none 809,[]),
 (817,yP "match_arm" "match_arm" (bV 63) .none 816,[]),
 (824,yP "matchp" "matchp" (bV 64) .none 823,[]),
 (831,yP "matchq" "matchq" (bV 65) .none 830,[]),
 (838,pm7 "raise_version" "raise_version" (bV 67) .none 837,[]),
 (845,pm7 "own_module" "own_module" (bV 68) .none 844,[]),
 (873,gX "__init__" "World.__init__" (cQ 74 0) (.ref 866) 872,[V.none,V.none,V.int (20000)]),
 (880,gX "tick" "World.tick" (cQ 74 1) .none 879,[]),
 (887,gX "write" "World.write" (cQ 74 2) .none 886,[]),
 (894,gX "number" "World.number" (cQ 74 3) .none 893,[]),
 (901,gX "next_ident" "World.next_ident" (cQ 74 4) .none 900,[]),
 (908,gX "ident" "World.ident" (cQ 74 5) .none 907,[]),
 (915,gX "builtin" "World.builtin" (cQ 74 6) .none 914,[]),
 (920,gX "make_builtin" "World.make_builtin" (cQ 74 7) .none 919,[]),
 (927,gX "give_own" "World.give_own" (cQ 74 8) .none 926,[]),
 (935,gX "new_module" "World.new_module" (cQ 74 9) (.ref 928) 934,[V.none,V.none,V.none]),
 (942,gX "class_of" "World.class_of" (cQ 74 10) .none 941,[]),
 (949,gX "own_of" "World.own_of" (cQ 74 11) .none 948,[]),
 (956,gX "own_behind" "World.own_behind" (cQ 74 12) .none 955,[]),
 (963,gX "root_of" "World.root_of" (cQ 74 13) .none 962,[]),
 (970,gX "real_class" "World.real_class" (cQ 74 14) .none 969,[]),
 (977,gX "text" "World.text" (cQ 74 15) .none 976,[]),
 (984,gX "list_of" "World.list_of" (cQ 74 16) .none 983,[]),
 (991,gX "table_of" "World.table_of" (cQ 74 17) .none 990,[]),
 (998,gX "key_of" "World.key_of" (cQ 74 18) .none 997,[]),
 (1005,gX "range_of" "World.range_of" (cQ 74 19) .none 1004,[]),
 (1012,gX "proc" "World.proc" (cQ 74 20) .none 1011,[]),
 (1019,gX "thing" "World.thing" (cQ 74 21) .none 1018,[]),
 (1026,gX "is_error_class" "World.is_error_class" (cQ 74 22) .none 1025,[]),
 (1031,gX "spread" "World.spread" (cQ 74 23) .none 1030,[]),
 (1038,gX "error" "World.error" (cQ 74 24) .none 1037,[]),
 (1045,gX "fail" "World.fail" (cQ 74 25) .none 1044,[]),
 (1052,gX "need_thawed" "World.need_thawed" (cQ 74 26) .none 1051,[]),
 (1059,gX "set_field" "World.set_field" (cQ 74 27) .none 1058,[]),
 (1066,gX "describe" "World.describe" (cQ 74 28) .none 1065,[]),
 (1073,gX "own_constant" "World.own_constant" (cQ 74 29) .none 1072,[]),
 (1080,gX "find_constant" "World.find_constant" (cQ 74 30) .none 1079,[]),
 (1087,gX "constant" "World.constant" (cQ 74 31) .none 1086,[]),
 (1094,gX "find_in" "World.find_in" (cQ 74 32) .none 1093,[]),
 (1101,gX "constant_in" "World.constant_in" (cQ 74 33) .none 1100,[]),
 (1108,gX "set_constant" "World.set_constant" (cQ 74 34) .none 1107,[]),
 (1120,kM "_law_bag" "_law_bag" (bV 76) .none 1119,[]),
 (1127,E2,[]),
 (1134,rV,[]),
 (1141,kM "_law_other" "_law_other" (bV 79) .none 1140,[]),
 (1148,E3,[]),
 (1153,E4,[]),
 (1158,AA,[]),
 (1163,E5,[]),
 (1170,AB,[]),
 (1175,E6,[]),
 (1182,kM "_law_weight" "_law_weight" (bV 86) .none 1181,[]),
 (1189,AD,[]),
 (1196,kM "_law_holds" "_law_holds" (bV 88) .none 1195,[]),
 (1203,wN,[]),
 (1210,iL,[]),
 (1217,kM "_law_all" "_law_all" (bV 91) .none 1216,[]),
 (1224,E7,[]),
 (1231,kM "_law_case" "_law_case" (bV 93) .none 1230,[]),
 (1238,pG,[]),
 (1245,kM "_law_words" "_law_words" (bV 95) .none 1244,[]),
 (1252,kM "_law_one" "_law_one" (bV 96) .none 1251,[]),
 (1259,kM "_law_arm" "_law_arm" (bV 97) .none 1258,[]),
 (1266,nQ,[]),
 (1273,rW,[])]
noncomputable def AE:List (Str×V):=[
 bK "_wall" 21,
 bK "is_int" 237,
 bK "truth" 244,
 bK "sort_of" 251,
 bK "same" 258,
 bK "code_of" 264,
 bK "is_word" 271,
 bK "is_label" 278,
 bK "is_plain_symbol" 285,
 bK "full_name" 292,
 bK "show_letter" 299,
 bK "show_text" 304,
 bK "show_symbol" 311,
 bK "show_pair" 318,
 bK "show_range" 325,
 bK "show_thing" 330,
 bK "show_error" 337,
 bK "show" 345,
 bK "give_cause" 423,
 bK "do_nil" 573,
 bK "do_values" 580,
 bK "do_array" 587,
 bK "do_seq" 594,
 bK "enter_pattern" 719,
 bK "bind_local" 726,
 bK "p_value" 733,
 bK "p_bind" 740,
 bK "p_alt" 747,
 bK "case" 775,
 bK "ask_test" 782,
 bK "ask_value" 789,
 bK "case_body" 796,
 bK "casein" 803,
 bK "next_arm" 810,
 bK "match_arm" 817,
 bK "matchp" 824,
 bK "matchq" 831,
 bK "raise_version" 838,
 bK "own_module" 845,
 bK "_law_bag" 1120,
 bK "_law_take" 1127,
 bK "_law_value" 1134,
 bK "_law_other" 1141,
 bK "_law_leaf" 1148,
 bK "_law_test" 1153,
 bK "_law_whens" 1158,
 bK "_law_pattern" 1163,
 bK "_law_arms" 1170,
 bK "_law_node" 1175,
 bK "_law_weight" 1182,
 bK "_law_asked" 1189,
 bK "_law_holds" 1196,
 bK "_law_guard" 1203,
 bK "_law_read" 1210,
 bK "_law_all" 1217,
 bK "_law_tested" 1224,
 bK "_law_case" 1231,
 bK "_law_fits" 1238,
 bK "_law_words" 1245,
 bK "_law_one" 1252,
 bK "_law_arm" 1259,
 bK "_law_kinds" 1266,
 bK "law" 1273,
 bK "Thing" 40,
 bK "Text" 62,
 bK "ListThing" 82,
 bK "TableThing" 120,
 bK "RangeThing" 140,
 bK "ErrorThing" 181,
 bK "ModuleThing" 228,
 bK "Way" 441,
 bK "Task" 463,
 bK "Walker" 562,
 bK "Node" 687,
 bK "Match" 708,
 bK "Choice" 764,
 bK "World" 1111,
 (("FIELDS":Str),V.fB [E8 "nil",E8 "true",E8 "false",E8 "self",E8 "retry",(("int":Str),V.tup [V.str "value"]),(("sym":Str),V.tup [V.str "name"]),(("str":Str),V.tup [V.str "text"]),(("dstr":Str),V.tup [V.str "parts"]),(("array":Str),V.tup [V.str "items"]),(("hash":Str),V.tup [V.str "pairs"]),(("range":Str),V.tup [V.str "first",V.str "last",V.str "open"]),(("splat":Str),V.tup [V.str "value"]),(("lvar":Str),V.tup [V.str "name"]),(("ivar":Str),V.tup [V.str "name"]),(("gvar":Str),V.tup [V.str "name"]),(("const":Str),V.tup [V.str "scope",V.str "name"]),(("t_local":Str),V.tup [V.str "name"]),(("t_ivar":Str),V.tup [V.str "name"]),(("t_gvar":Str),V.tup [V.str "name"]),(("t_const":Str),V.tup [V.str "name"]),(("t_index":Str),V.tup [V.str "receiver",V.str "args"]),(("t_attr":Str),V.tup [V.str "receiver",V.str "name"]),(("t_splat":Str),V.tup [V.str "target"]),(("t_group":Str),V.tup [V.str "targets"]),(("assign":Str),V.tup [V.str "target",V.str "value"]),(("masgn":Str),V.tup [V.str "targets",V.str "value"]),(("opasgn":Str),V.tup [V.str "target",V.str "op",V.str "value"]),(("call":Str),V.tup [V.str "receiver",V.str "name",V.str "args",V.str "block",V.str "safe"]),(("vcall":Str),V.tup [V.str "name"]),(("block":Str),V.tup [V.str "params",V.str "body"]),(("blockpass":Str),V.tup [V.str "value"]),(("and":Str),V.tup [V.str "left",V.str "right"]),(("or":Str),V.tup [V.str "left",V.str "right"]),(("not":Str),V.tup [V.str "value"]),(("super":Str),V.tup [V.str "args",V.str "block"]),(("yield":Str),V.tup [V.str "args"]),(("lambda":Str),V.tup [V.str "params",V.str "body"]),(("defined":Str),V.tup [V.str "value"]),(("seq":Str),V.tup [V.str "items"]),(("if":Str),V.tup [V.str "test",V.str "yes",V.str "no"]),(("while":Str),V.tup [V.str "test",V.str "body",V.str "negate"]),(("case":Str),V.tup [V.str "subject",V.str "whens",V.str "other"]),(("casein":Str),V.tup [V.str "subject",V.str "arms",V.str "other"]),(("matchp":Str),V.tup [V.str "value",V.str "pattern"]),(("matchq":Str),V.tup [V.str "value",V.str "pattern"]),(("begin":Str),V.tup [V.str "body",V.str "rescues",V.str "other",V.str "ensure"]),(("break":Str),V.tup [V.str "value"]),(("next":Str),V.tup [V.str "value"]),(("return":Str),V.tup [V.str "value"]),(("def":Str),V.tup [V.str "singleton",V.str "name",V.str "params",V.str "body"]),(("class":Str),V.tup [V.str "name",V.str "superclass",V.str "body"]),(("module":Str),V.tup [V.str "name",V.str "body"]),(("sclass":Str),V.tup [V.str "value",V.str "body"]),(("alias":Str),V.tup [V.str "new",V.str "old"]),(("undef":Str),V.tup [V.str "name"]),(("p_value":Str),V.tup [V.str "value"]),(("p_bind":Str),V.tup [V.str "name"]),(("p_pin":Str),V.tup [V.str "value"]),(("p_alt":Str),V.tup [V.str "patterns"]),(("p_as":Str),V.tup [V.str "pattern",V.str "name"]),(("p_array":Str),V.tup [V.str "const",V.str "pre",V.str "rest",V.str "post"]),(("p_hash":Str),V.tup [V.str "const",V.str "pairs",V.str "rest"])]),
 (("MODULES":Str),V.tup [V.str "Kernel",V.str "Comparable",V.str "Enumerable"]),
 (("BUILTINS":Str),V.fB [(("BasicObject":Str),V.none),eF "Object" "BasicObject",eF "Module" "Object",eF "Class" "Module",(("Kernel":Str),V.none),(("Comparable":Str),V.none),(("Enumerable":Str),V.none),eF "NilClass" "Object",eF "TrueClass" "Object",eF "FalseClass" "Object",eF "Numeric" "Object",eF "Integer" "Numeric",eF "String" "Object",eF "Symbol" "Object",eF "Array" "Object",eF "Hash" "Object",eF "Range" "Object",eF "Proc" "Object",eF "Fiber" "Object",eF "Exception" "Object",eF "ScriptError" "Exception",eF "NotImplementedError" "ScriptError",eF "SystemStackError" "Exception",eF "StandardError" "Exception",eF "ArgumentError" "StandardError",eF "UncaughtThrowError" "ArgumentError",eF "FiberError" "StandardError",eF "IndexError" "StandardError",eF "KeyError" "IndexError",eF "StopIteration" "IndexError",eF "LocalJumpError" "StandardError",eF "NameError" "StandardError",eF "NoMethodError" "NameError",eF "NoMatchingPatternError" "StandardError",eF "NoMatchingPatternKeyError" "NoMatchingPatternError",eF "RangeError" "StandardError",eF "RuntimeError" "StandardError",eF "FrozenError" "RuntimeError",eF "TypeError" "StandardError",eF "ZeroDivisionError" "StandardError"]),
 (("MIXED":Str),V.fB [(("Object":Str),V.tup [V.str "Kernel"]),(("Numeric":Str),V.tup [V.str "Comparable"]),(("String":Str),V.tup [V.str "Comparable"]),(("Symbol":Str),V.tup [V.str "Comparable"]),(("Array":Str),V.tup [V.str "Enumerable"]),(("Hash":Str),V.tup [V.str "Enumerable"]),(("Range":Str),V.tup [V.str "Enumerable"])]),
 (("OPERATORS":Str),V.tup [V.str "+",V.str "-",V.str "*",V.str "/",V.str "%",V.str "**",V.str "==",V.str "!=",V.str "<",V.str ">",V.str "<=",V.str ">=",V.str "<=>",V.str "===",V.str "[]",V.str "[]=",V.str "<<",V.str ">>",V.str "!",V.str "~",V.str "+@",V.str "-@",V.str "&",V.str "|",V.str "^",V.str "=~",V.str "!~"]),
 (("isinstance":Str),V.bi .zS),
 (("len":Str),V.bi .len),
 (("abs":Str),V.bi .abs),
 (("repr":Str),V.bi .repr),
 (("list":Str),V.ty .list),
 (("tuple":Str),V.ty .tuple),
 (("str":Str),V.ty .str),
 (("int":Str),V.ty .int),
 (("bool":Str),V.ty .bool),
 (("range":Str),V.ty .range)]
noncomputable def WD:List (Addr×List (Str×AK)):=[
 (40,[aT "number",aT "owner",aT "fields",aT "own",aT "frozen",aT "ident"]),
 (62,[aT "number",aT "owner",aT "fields",aT "own",aT "frozen",aT "ident",aT "text"]),
 (82,[aT "number",aT "owner",aT "fields",aT "own",aT "frozen",aT "ident",aT "items"]),
 (120,[aT "number",aT "owner",aT "fields",aT "own",aT "frozen",aT "ident",aT "rows",aT "spare",cS "put" 105,cS "row" 112,cS "pairs" 117]),
 (140,[aT "number",aT "owner",aT "fields",aT "own",aT "frozen",aT "ident",aT "first",aT "last",aT "open"]),
 (181,[aT "number",aT "owner",aT "fields",aT "own",aT "frozen",aT "ident",aT "message",aT "cause"]),
 (228,[aT "number",aT "owner",aT "fields",aT "own",aT "frozen",aT "ident",aT "name",aT "is_class",aT "parent",aT "outer",aT "methods",aT "constants",aT "mixed",aT "ahead",aT "attached",aT "native",aT "kept",cS "is_own" 225]),
 (441,[aT "sort",aT "value",aT "tag"]),
 (463,[aT "kind",aT "node",aT "env",aT "number",aT "state",aT "held",aT "kept"]),
 (562,[aT "world",aT "table",aT "catches",aT "stack",aT "way",aT "fiber",cS "enter" 488,cS "go" 495,cS "send" 503,cS "done" 510,cS "leave" 517,cS "deliver" 524,cS "going" 531,cS "raise_error" 538,cS "fail" 545,cS "step" 552,cS "run" 559]),
 (687,[aT "kind",aT "parts",aT "line",aT "own",cS "part" 684]),
 (708,[aT "subject",aT "items",aT "rows",aT "at"]),
 (764,[aT "subject",aT "arm",aT "place",aT "values"]),
 (1111,[aT "natives",aT "prelude",aT "read",aT "most",aT "taken",aT "last_number",aT "last_ident",aT "symbol_idents",aT "made",aT "version",aT "const_version",aT "globals",aT "out",aT "is_ready",aT "main",cS "tick" 880,cS "write" 887,cS "number" 894,cS "next_ident" 901,cS "ident" 908,cS "builtin" 915,cS "make_builtin" 920,cS "give_own" 927,cS "new_module" 935,cS "class_of" 942,cS "own_of" 949,cS "own_behind" 956,cS "root_of" 963,cS "real_class" 970,cS "text" 977,cS "list_of" 984,cS "table_of" 991,cS "key_of" 998,cS "range_of" 1005,cS "proc" 1012,cS "thing" 1019,cS "is_error_class" 1026,cS "spread" 1031,cS "error" 1038,cS "fail" 1045,cS "need_thawed" 1052,cS "set_field" 1059,cS "describe" 1066,cS "own_constant" 1073,cS "find_constant" 1080,cS "constant" 1087,cS "find_in" 1094,cS "constant_in" 1101,cS "set_constant" 1108])]
noncomputable def WE:List (Addr×Addr):=[(40,37),(62,59),(82,79),(120,98),(140,137),(181,178),(228,218),(441,438),(463,460),(562,481),(687,677),(708,705),(764,761),(1111,873)]
noncomputable def WG:List (Addr×List (Str×Addr)):=[(40,[("__init__",37)])]
noncomputable def Zm:List (Nat×Nat×Bool):=[(0,2,false),(0,3,false),(0,4,false),(0,68,false),(0,88,false),(0,126,false),(0,146,false),(0,187,false),(0,234,false),(0,46,false),(1,2,false),(1,3,true),(1,4,true),(1,68,false),(1,88,false),(1,126,false),(1,146,false),(1,187,false),(1,234,false),(1,46,false),(2,2,false),(2,3,true),(2,4,false),(2,68,false),(2,88,false),(2,126,false),(2,146,false),(2,187,false),(2,234,false),(2,46,false),(3,2,true),(3,3,false),(3,4,false),(3,68,false),(3,88,false),(3,126,false),(3,146,false),(3,187,false),(3,234,false),(3,46,false),(4,2,false),(4,3,false),(4,4,false),(4,68,false),(4,88,false),(4,126,false),(4,146,false),(4,187,false),(4,234,false),(4,46,false),(5,2,false),(5,3,false),(5,4,false),(5,68,false),(5,88,false),(5,126,false),(5,146,false),(5,187,false),(5,234,false),(5,46,false),(89,2,false),(89,3,false),(89,4,false),(89,68,false),(89,88,true),(89,126,false),(89,146,false),(89,187,false),(89,234,false),(89,46,true),(188,2,false),(188,3,false),(188,4,false),(188,68,false),(188,88,false),(188,126,false),(188,146,false),(188,187,true),(188,234,false),(188,46,true),(235,2,false),(235,3,false),(235,4,false),(235,68,false),(235,88,false),(235,126,false),(235,146,false),(235,187,false),(235,234,true),(235,46,true),(69,2,false),(69,3,false),(69,4,false),(69,68,true),(69,88,false),(69,126,false),(69,146,false),(69,187,false),(69,234,false),(69,46,true)]
noncomputable def Zn:List Addr:=[82,181,228,62]
noncomputable def WH:List Addr:=[21,237,244,251,258,264,271,278,285,292,299,304,311,318,325,330,337,345,423,573,580,587,594,719,726,733,740,747,775,782,789,796,803,810,817,824,831,838,845,1120,1127,1134,1141,1148,1153,1158,1163,1170,1175,1182,1189,1196,1203,1210,1217,1224,1231,1238,1245,1252,1259,1266,1273,40,62,82,120,140,181,228,441,463,562,687,708,764,1111,37,59,79,98,105,112,117,137,178,218,225,438,460,481,488,495,503,510,517,524,531,538,545,552,559,677,684,705,761,873,880,887,894,901,908,915,920,927,935,942,949,956,963,970,977,984,991,998,1005,1012,1019,1026,1031,1038,1045,1052,1059,1066,1073,1080,1087,1094,1101,1108]
noncomputable def Sj:DX:={attrs:=WD,clsAt:=WG,isin:=Zm,tR:=Zn,makes:=WE,keeps:=WH}
noncomputable def aba(asks:List Addr)(K:Frag):Tab:={glob:=AE,fns:=rX,asks:=asks,K:=K,T:=Sj}
noncomputable def eZ{α:Type}:aA α→Prop
 |.need p r=>p∧eZ r
 |_=>True
noncomputable def strip{α:Type}:aA α→aA α
 |.need _ r=>strip r
 |r=>r
noncomputable def Sk{α:Type}(r:aA α):Option (Addr×List V):=match r with
 |.ask _ f as _ _=>some (f,as)
 |_=>none
noncomputable def BW{α:Type}(r:aA α):Option (Addr×List V):=Sk (strip r)
noncomputable def Sl{α:Type}(r:aA α):Nat:=match r with
 |.ask d _ _ _ _=>d
 |_=>0
noncomputable def BX{α:Type}(r:aA α):Nat:=Sl (strip r)
noncomputable def AF{α:Type}(r:aA α):St:=match r with
 |.ask _ _ _ st _=>st
 |_=>[]
noncomputable def mq{α:Type}(r:aA α):St:=AF (strip r)
noncomputable def Sm{α:Type}(r:aA α)(v:V)(st':St):aA α:=match r with
 |.ask _ _ _ _ k=>k v st'
 |_=>.bad
noncomputable def jS{α:Type}(r:aA α)(v:V)(st':St):aA α:=Sm (strip r) v st'
noncomputable def BY{α:Type}(r:aA α):Bool:=match r with
 |.fork _ _=>true
 |_=>false
noncomputable def wO{α:Type}(r:aA α):Bool:=BY (strip r)
noncomputable def E9{α:Type}(r:aA α):Bool:=match r with
 |.fork b _=>b
 |_=>true
noncomputable def xY{α:Type}(r:aA α):Bool:=E9 (strip r)
noncomputable def MM{α:Type}(r:aA α)(c:Bool):aA α:=match r with
 |.fork _ k=>k c
 |_=>.bad
noncomputable def ah{α:Type}(r:aA α)(c:Bool):aA α:=MM (strip r) c
noncomputable def Fb{α:Type}(r:aA α):Option (List V×Int):=match r with
 |.pick vs i _=>some (vs,i)
 |_=>none
noncomputable def JP{α:Type}(r:aA α):Option (List V×Int):=Fb (strip r)
noncomputable def MN{α:Type}(r:aA α)(v:V):aA α:=match r with
 |.pick _ _ k=>k v
 |_=>.bad
noncomputable def bE{α:Type}(r:aA α)(v:V):aA α:=MN (strip r) v
noncomputable def Fc{α:Type}(r:aA α):Option (List V×ai×St):=match r with
 |.loop _ _ vs m st _=>some (vs,m,st)
 |_=>none
noncomputable def Zo{α:Type}(r:aA α):Option (List V×ai×St):=Fc (strip r)
noncomputable def MO{α:Type}(r:aA α)(v:V)(m:ai)(st:St):aA cz:=match r with
 |.loop t _ _ _ _ _=>t v m st
 |_=>.bad
noncomputable def i9{α:Type}(r:aA α)(v:V)(m:ai)(st:St):aA cz:=MO (strip r) v m st
noncomputable def HJ{α:Type}(r:aA α)(m:ai):ai:=match r with
 |.loop _ kp _ _ _ _=>kp m
 |_=>m
noncomputable def lF{α:Type}(r:aA α)(m:ai):ai:=HJ (strip r) m
noncomputable def Fd{α:Type}(r:aA α)(p:cz):aA α:=match r with
 |.loop _ _ _ _ _ k=>k p
 |_=>.bad
noncomputable def ja{α:Type}(r:aA α)(p:cz):aA α:=Fd (strip r) p
noncomputable def JQ{α:Type}(r:aA α):Bool:=match r with
 |.ok _=>true
 |_=>false
noncomputable def iM{α:Type}(r:aA α):Bool:=JQ (strip r)
noncomputable def WI(r:aA (V×St)):V:=match r with
 |.ok p=>p.1
 |_=>.none
noncomputable def rY(r:aA (V×St)):V:=WI (strip r)
noncomputable def WJ(r:aA (V×St)):St:=match r with
 |.ok p=>p.2
 |_=>[]
noncomputable def rZ(r:aA (V×St)):St:=WJ (strip r)
structure jb {α:Type} (r:aA α):Prop where
 out:eZ r
structure Gd {α:Type} (S:Spec) (pre:Nat→Addr→List V→St→Prop) (r:aA α) (Q:α→Prop):Prop where
 out:Good S pre r Q
section
variable{α:Type}
theorem gk:eZ r→Good S pre (strip r) Q→Good S pre r Q:=by
 induction r with
 |need p r ih=>exact fun h g=>⟨h.1,ih h.2 g⟩
 |_=>exact fun _ g=>g
theorem Us(h:strip r=.ok a)(n:eZ r)(q:Q a):Good S pre r Q:=gk n (by rw[h];exact q)
theorem MP(h:Sk s=some (f,as))(hp:S (Sl s) f as (AF s) W)(hk:∀v st',W v st'→Good S pre (Sm s v st') Q):Good S pre s Q:=by
 induction s using aA.casesOn with
 |ask=>obtain⟨rfl,rfl⟩:=oB h;exact⟨W,hp,hk⟩
 |_=>exact nn h
theorem P1(f:Addr)(as:List V)(h:BW r=some (f,as))(n:eZ r)(W:V→St→Prop)(hp:S (BX r) f as (mq r) W)(hk:∀v st',W v st'→Good S pre (jS r v st') Q):Good S pre r Q:=gk n (MP h hp hk)
theorem JR(h:BY s=true)(hk:∀c,E9 s=c→Good S pre (MM s c) Q):Good S pre s Q:=by
 induction s using aA.casesOn with
 |fork b k=>exact hk b rfl
 |_=>exact ft h
theorem MQ(h:wO r=true)(n:eZ r)(hk:∀c,xY r=c→Good S pre (ah r c) Q):Good S pre r Q:=gk n (JR h hk)
theorem JS(h:Fb s=some (vs,i))(hi:i=Int.ofNat j)(hv:vs[j]? =some v)(hl:vs.length<500)(hk:Good S pre (MN s v) Q):Good S pre s Q:=by
 induction s using aA.casesOn with
 |pick=>obtain⟨rfl,rfl⟩:=oB h;exact⟨j,v,hi,hv,hl,hk⟩
 |_=>exact nn h
theorem MR(vs:List V)(i:Int)(h:JP r=some (vs,i))(n:eZ r)(j:Nat)(v:V)(hi:i=Int.ofNat j)(hv:vs[j]? =some v)(hl:vs.length<500)(hk:Good S pre (bE r v) Q):Good S pre r Q:=gk n (JS h hi hv hl hk)
def LpQ(S:Spec)(pre:Nat→Addr→List V→St→Prop)(Q:α→Prop)(Inv:List V→ai→St→Prop)(rest:List V)(kp:ai→ai)(k:cz→aA α)(p:cz):Prop:=match p.1.1 with
 |.next=>Inv rest (kp p.1.2) p.2
 |.cont=>Inv rest (kp p.1.2) p.2
 |.brk=>Good S pre (k ((.next,p.1.2),p.2)) Q
 |.ret u=>Good S pre (k ((.ret u,p.1.2),p.2)) Q
theorem P4{m:ai}{st:St}{Inv:List V→ai→St→Prop}(h:Fc s=some (vs,m,st))(h0:Inv vs m st)
  (h1:∀v rest m st,Inv (v::rest) m st→Good S pre (MO s v m st) (LpQ S pre Q Inv rest (HJ s) (Fd s)))
  (h2:∀m st,Inv [] m st→Good S pre (Fd s ((.next,m),st)) Q):Good S pre s Q:=by
 induction s using aA.casesOn with
 |loop=>obtain⟨rfl,e⟩:=oB h;obtain⟨rfl,rfl⟩:=qQ e;exact⟨Inv,h0,h1,h2⟩
 |_=>exact nn h
end
theorem MS(h:JQ s=true)(q:Q (WI s,WJ s)):Good S pre s Q:=by
 cases s with
 |ok=>exact q
 |_=>exact ft h
theorem P5(h:iM r=true)(n:eZ r)(q:Q (rY r,rZ r)):Good S pre r Q:=gk n (MS h q)
section
variable{α:Type}
theorem kN(h:strip r=.ok a)(n:jb r)(q:Q a):Gd S pre r Q:=⟨Us h n.out q⟩
theorem MT{Q:V×St→Prop}(h:iM r=true)(n:jb r)(q:Q (rY r,rZ r)):Gd S pre r Q:=⟨P5 h n.out q⟩
theorem MU(f:Addr)(as:List V)(h:BW r=some (f,as))(n:jb r)(W:V→St→Prop)(hp:S (BX r) f as (mq r) W)(hk:∀v st',W v st'→Gd S pre (jS r v st') Q):Gd S pre r Q:=⟨P1 f as h n.out W hp fun v st' hs=>(hk v st' hs).out⟩
theorem uA(h:wO r=true)(n:jb r)(hk:∀c,xY r=c→Gd S pre (ah r c) Q):Gd S pre r Q:=⟨MQ h n.out fun c hc=>(hk c hc).out⟩
theorem ie(vs:List V)(i:Int)(j:Nat)(v:V)(h:JP r=some (vs,i))(n:jb r)(hi:i=Int.ofNat j)(hv:vs[j]? =some v)(hl:vs.length<500)(hk:Gd S pre (bE r v) Q):Gd S pre r Q:=⟨MR vs i h n.out j v hi hv hl hk.out⟩
theorem BZ{r:aA α}(vs:List V)(m:ai)(st:St)(Inv:List V→ai→St→Prop)(h:Zo r=some (vs,m,st))(n:jb r)(h0:Inv vs m st)
  (h1:∀v rest m st,Inv (v::rest) m st→Gd S pre (i9 r v m st) (fun p=>match p.1.1 with
    |.next=>Inv rest (lF r p.1.2) p.2
    |.cont=>Inv rest (lF r p.1.2) p.2
    |.brk=>Gd S pre (ja r ((.next,p.1.2),p.2)) Q
    |.ret u=>Gd S pre (ja r ((.ret u,p.1.2),p.2)) Q))
  (h2:∀m st,Inv [] m st→Gd S pre (ja r ((.next,m),st)) Q):Gd S pre r Q:=by
 refine⟨gk n.out (P4 h h0 (fun v rest m st hi=>Good.mono (fun p hp=> ?_) (h1 v rest m st hi).out) fun m st hi=>(h2 m st hi).out)⟩;obtain⟨⟨o,m'⟩,st'⟩:=p;induction o using Out.casesOn with
 |next=>exact hp
 |cont=>exact hp
 |brk=>exact hp.out
 |ret u=>exact hp.out
theorem nd(h:eZ r=p)(q:p):jb r:=⟨by rw[h];exact q⟩
theorem gY(h:eZ r=True):jb r:=⟨by rw[h];trivial⟩
end
def aI:Nat→Addr→List V→St→Prop:=fun _ _ _ _=>True
noncomputable def kP(p:Program)(w:World)(S:Spec)(pre:Nat→Addr→List V→St→Prop)(asks:List Addr)(K:Frag):Cx:=⟨p,w,S,pre,aba asks K⟩
mutual
inductive Fz (σ:Nat→Addr) (n:Nat) (st:St):Bool→V→V→Prop
 |closed {m:Bool} {v:V} (h:aJ v=true):Fz σ n st m v v
 |loc {k:Nat} (h:k<n):Fz σ n st false (.loc k) (.loc k)
 |num {m:Bool} (i:Int):Fz σ n st m (.num i) (.int i)
 |nG {m:Bool} (b:Bool):Fz σ n st m (.nG b) (.bool b)
 |aL {m:Bool} (k:Nat):Fz σ n st m (.loc k) (.aL (.ref (σ k)))
 |tup {m:Bool} {vs ws:List V} (h:yQ σ n st m vs ws):Fz σ n st m (.tup vs) (.tup ws)
 |lst {m:Bool} {k:Nat} {vs ws:List V} (hk:n≤k) (e:st[k]? =some (.list [] vs)) (h:yQ σ n st true vs ws):Fz σ n st m (.loc k) (.lst ws)
 |fB {m:Bool} {k:Nat} {fs gs:ai} (hk:n≤k) (hs:σ k≠sysModules) (e:st[k]? =some (.dict fs)) (h:Fe σ n st true fs gs):Fz σ n st m (.loc k) (.fB gs)
 |inst {m:Bool} {k d:Nat} {C:Addr} {fs gs:ai} (hk:n≤k) (hd:n≤d) (e:st[k]? =some (.inst C d)) (e':st[d]? =some (.dict fs)) (h:Fe σ n st true fs gs):Fz σ n st m (.loc k) (.inst C gs)
inductive yQ (σ:Nat→Addr) (n:Nat) (st:St):Bool→List V→List V→Prop
 |nil {m:Bool}:yQ σ n st m [] []
 |cons {m:Bool} {v w:V} {vs ws:List V} (h:Fz σ n st m v w) (r:yQ σ n st m vs ws):yQ σ n st m (v::vs) (w::ws)
inductive Fe (σ:Nat→Addr) (n:Nat) (st:St):Bool→ai→ai→Prop
 |nil {m:Bool}:Fe σ n st m [] []
 |cons {m:Bool} {x:Str} {v w:V} {vs ws:ai} (h:Fz σ n st m v w) (r:Fe σ n st m vs ws):Fe σ n st m ((x,v)::vs) ((x,w)::ws)
end
inductive HK (σ:Nat→Addr) (n:Nat) (st:St):AO→AO→Prop
 |inst (C:Addr) (d:Nat) (h:d<n):HK σ n st (.inst C d) (.inst C d)
 |list {pre:LV} {vs ws:List V} (h:yQ σ n st false vs ws):HK σ n st (.list pre vs) (.list pre ws)
 |dict {fs gs:ai} (h:Fe σ n st false fs gs):HK σ n st (.dict fs) (.dict gs)
def CR(σ:Nat→Addr)(n:Nat)(st st':St):Prop:=st'.length=n∧n≤st.length∧∀(k:Nat) (o o':AO),k<n→st[k]? =some o→st'[k]? =some o'→HK σ n st o o'
open Classical in
noncomputable def fM(I:IM)(σ:Nat→Addr)(n:Nat)(st:St)(h:Heap):IM:=fun b=>match I b with
 |some o=>some o
 |none=>if∃k,n≤k∧k<st.length∧σ k=b then h.get? b else none
section
variable{P:Params}{st:St}
theorem wQ:∀b o,I b=some o→fM I σ n st h b=some o:=fun b o e=>by unfold fM;rw[e]
theorem wR(e:fM I σ n st h b=some o):I b=some o∨(I b=none∧h.get? b=some o∧∃k,n≤k∧k<st.length∧σ k=b):=by
 unfold fM at e
 split at e
 ·rename_i o' q;rw[q];exact .inl e
 ·rename_i q
  split at e
  ·rename_i hk;exact .inr ⟨q,e,hk⟩
  ·exact nn e
open Classical in
theorem sV(r:cF P I σ st h)(hk:n≤k)(hl:k<st.length)(g:h.get? (σ k)=some o):fM I σ n st h (σ k)=some o:=by
 unfold fM;rw[r.out k hl];show(if _ then _ else _)=_;rw[if_pos ⟨k,hk,hl,rfl⟩];exact g
noncomputable def lG(m:Bool)(σ:Nat→Addr):Nat→Addr:=if m=true then fun _=>0 else σ
noncomputable def cnt(m:Bool)(n:Nat):Nat:=if m=true then 0 else n
theorem aq.toM(m:Bool)(r:aq I P (fun _=>0) 0 v x):aq I P (lG m σ) (cnt m n) v x:=by
 induction m using qd
 ·exact r.up
 ·exact r
inductive vc (I:IM) (P:Params) (σ:Nat→Addr) (st:St) (h:Heap) (k:Nat) (o:AO):Value→Prop
 |mk {ob:Obj} (hl:k<st.length) (g:h.get? (σ k)=some ob) (r:Ro I P σ st.length o ob):vc I P σ st h k o (.ref (σ k))
theorem uB(r:cF P I σ st h)(e:st[k]? =some o)(hv:aq I P σ st.length (.loc k) y):vc I P σ st h k o y:=by
 have q:=hv.inv;clear hv;induction q using iH.casesOn with
 |mk hl=>obtain⟨ob,g,gC⟩:=r.cells k o e;exact .mk hl g gC.inv
theorem WK(r:cF P I σ st h)(hk:n≤k)(e:st[k]? =some (.list [] vs))(ih:∀ys,aG I P σ st.length vs ys→aG (fM I σ n st h) P (lG true σ) (cnt true n) ws ys)(hv:aq I P σ st.length (.loc k) y):
  aq (fM I σ n st h) P (lG m σ) (cnt m n) (.lst ws) y:=by
 have q:=uB r e hv;clear hv;induction q using vc.casesOn with
 |mk hl g q=>induction q using j7.casesOn with|mk ep hp rr=>exact .lst (sV r hk hl g) (ih _ rr)
theorem WL(r:cF P I σ st h)(hk:n≤k)(hs:σ k≠sysModules)(e:st[k]? =some (.dict fs))(ih:∀ys,bF I P σ st.length fs ys→bF (fM I σ n st h) P (lG true σ) (cnt true n) gs ys)(hv:aq I P σ st.length (.loc k) y):
  aq (fM I σ n st h) P (lG m σ) (cnt m n) (.fB gs) y:=by
 have q:=uB r e hv;clear hv;induction q using vc.casesOn with
 |mk hl g q=>induction q using kW.casesOn with|mk ep rr=>exact .fB (beq_eq_false_iff_ne.mpr hs) (sV r hk hl g) (ih _ rr)
theorem Ut(r:cF P I σ st h)(hk:n≤k)(hd:n≤d)(e:st[k]? =some (.inst C d))(e':st[d]? =some (.dict fs))(ih:∀ys,bF I P σ st.length fs ys→bF (fM I σ n st h) P (lG true σ) (cnt true n) gs ys)
  (hv:aq I P σ st.length (.loc k) y):aq (fM I σ n st h) P (lG m σ) (cnt m n) (.inst C gs) y:=by
 have q:=uB r e hv;clear hv;induction q using vc.casesOn with
 |mk hl g q=>induction q using rI.casesOn with
  |mk LL=>
   obtain⟨WM,g',AG⟩:=r.cells d _ e';have q':=AG.inv;clear AG;induction q' using kW.casesOn with|mk ep rr=>exact .inst (sV r hk hl g) (sV r hd LL g') (ih _ rr)
theorem Ff(r:cF P I σ st h)(f:Fz σ n st m v w)(hv:aq I P σ st.length v y):aq (fM I σ n st h) P (lG m σ) (cnt m n) w y:=
 Fz.rec (motive_1:=fun m v w _=>∀y,aq I P σ st.length v y→aq (fM I σ n st h) P (lG m σ) (cnt m n) w y)
  (motive_2:=fun m vs ws _=>∀y,aG I P σ st.length vs y→aG (fM I σ n st h) P (lG m σ) (cnt m n) ws y)
  (motive_3:=fun m vs ws _=>∀y,bF I P σ st.length vs y→bF (fM I σ n st h) P (lG m σ) (cnt m n) ws y)
  (fun q y hv=>((ki hv q).mono (Le.zero wQ)).toM _) (fun q y hv=>(by obtain⟨_⟩:=hv.inv;exact .loc _ q))
  (fun i y hv=>(by obtain⟨_⟩:=hv.inv;exact .int _ _)) (fun b y hv=>(hv.inv:y=_)▸.bool _) (fun k y hv=>(by obtain⟨_⟩:=hv.inv;exact .aL _))
  (fun _ ih y hv=>(by obtain⟨g,rr⟩:=hv.inv;exact .tup (wQ _ _ g) (ih _ rr)))
  (fun hk e _ ih y hv=>WK r hk e ih hv) (fun hk hs e _ ih y hv=>WL r hk hs e ih hv) (fun hk hd e e' _ ih y hv=>Ut r hk hd e e' ih hv)
  (fun y hv=>(hv.inv:y=_)▸.nil) (fun _ _ h1 h2 y hv=>(by obtain⟨hx,hr⟩:=hv.inv;exact .cons (h1 _ hx) (h2 _ hr)))
  (fun y hv=>(hv.inv:y=_)▸.nil) (fun _ _ h1 h2 y hv=>(by obtain⟨hx,hr⟩:=hv.inv;exact .cons (h1 _ hx) (h2 _ hr))) f y hv
theorem Uu(r:cF P I σ st h):∀{ws:List V} {ys:LV},yQ σ n st m vs ws→aG I P σ st.length vs ys→aG (fM I σ n st h) P (lG m σ) (cnt m n) ws ys:=by
 induction vs with
 |nil=>intro ws ys f hv;cases f;replace hv:=hv.inv;cases hv;exact .nil
 |cons v vs ih=>intro ws ys f hv;cases f with|cons q qs=>replace hv:=hv.inv;cases hv with|mk hx hr=>exact .cons (Ff r q hx) (ih qs hr)
theorem Uv(r:cF P I σ st h):∀{ws:ai} {ys:List DictEntry},Fe σ n st m vs ws→bF I P σ st.length vs ys→bF (fM I σ n st h) P (lG m σ) (cnt m n) ws ys:=by
 induction vs with
 |nil=>intro ws ys f hv;cases f;replace hv:=hv.inv;cases hv;exact .nil
 |cons v vs ih=>intro ws ys f hv;cases f with|cons q qs=>replace hv:=hv.inv;cases hv with|mk hx hr=>exact .cons (Ff r q hx) (ih qs hr)
open Classical in
theorem cF.freeze(r:cF P I σ st h)(f:CR σ n st st'):cF P (fM I σ n st h) σ st' h:=by
 obtain⟨hl,hn,f⟩:=f;refine⟨fun b o e=> ?_,fun k o e=> ?_,fun j k hj hk e=>r.inj j k (by lia) (by lia) e,fun k hk=> ?_⟩
 ·rcases wR e with q|⟨_,q,_⟩
  ·exact r.sub b o q
  ·exact q
 ·have hk:k<n:=by rw[←hl];exact(List.getElem?_eq_some_iff.mp e).1
  have nI:k<st.length:=by exact qz ‹_› ‹_›
  have e0:st[k]? =some st[k]:=qw nI;obtain⟨ob,g,gC⟩:=r.cells k _ e0;refine⟨ob,g, ?_⟩;have q:=f k _ _ hk e0 e;generalize st[k]=o0 at gC q;rw[hl];induction q using HK.casesOn with
  |inst C d hd=>induction gC.inv using rI.casesOn;exact .inst C d hd
  |list q=>
   induction gC.inv using j7.casesOn with
   |mk ep hp rr=>exact .list ep hp (Uu (m:=false) r q rr)
  |dict q=>
   induction gC.inv using kW.casesOn with
   |mk ep rr=>exact .dict ep (Uv (m:=false) r q rr)
 ·rw[hl]at hk;unfold fM;rw[r.out k (by lia)];show(if _ then _ else _)=_;rw[if_neg];rintro⟨j,h1,h2,h3⟩;have:=r.inj j k h2 (by lia) h3;lia
theorem aM.freeze(x:aM P X mZ jw n h₀ I σ st h)(f:CR σ n st st'):aM P X mZ jw n h₀ (fM I σ n st h) σ st' h:=by
 have hl:=f.1;refine⟨⟨fun b o e=>wQ _ _ (x.le.i b o e),x.le.s,by rw[hl];exact qf _⟩,fun b o e=> ?_,fun k a b=>absurd a (by lia),x.rel.freeze f,x.keep,x.alive⟩;rcases wR e with q|⟨_,_,k,h1,h2,h3⟩
 ·exact x.fresh b o q
 ·rw[←h3];exact .inr (x.new k h1 h2)
end
theorem tW(Sd:aU cx ev){A:Around}{I:IM}{σ:Nat→Addr}{st:St}{s:Shared}{E:dS}{a:Addr}{fd:FuncData×List V}{args:List V}{ys:LV}{Q:dS}{W:V→St→Prop}
  (hf:oh a cx.tab.fns=some fd)(H:au cx (k+1) A I σ st s)(r:aG I cx.P σ st.length args ys)
  (g:Good cx.S cx.pre (fV ev k fd.1 fd.2 [] args st) fun p=>∀af,(∀k,k<p.2.length→af k≠sysModules)→∃v' iI,Fz af st.length p.2 false p.1 v'∧CR af st.length p.2 iI∧W v' iI)
  (hW:∀v' iI,W v' iI→EV cx I σ st s Q (v',iI)):wpAny cx.M A (call (.ref a) ys) Q E s:=by
 refine wpAny_call (Ey Sd hf H r (Q:=Q) (fun v s' q=>q) (Good.mono (fun p gp I' af y s' x sm ry=> ?_) g));have rN:∀k,k<p.2.length→af k≠sysModules:=fun k hk z=>by
  obtain⟨o,ho⟩:=(H.base.mono x.le.i).tS;have:=x.rel.out k hk;rw[z,ho]at this;exact ns this
 obtain⟨v',iI,f1,f2,w⟩:=gp af rN;have fr:=Ff (m:=false) (n:=st.length) x.rel f1 ry;exact hW v' iI w _ af y s' (x.freeze f2) sm (by show aq _ _ _ iI.length _ _;rw[f2.1];exact fr)
set_option genCtorIdx true
inductive Val where
 |none|bool (b:Bool)|int (i:Int)
inductive Rz where
 |int (i:Int)|str (x:Str)
inductive bu where
 |val (x:Val)|raise (z:Rz)
inductive dK where
 |vals (xs:List Val)|raise (z:Rz)
inductive wU where
 |hit|miss|raise (z:Rz)
set_option genCtorIdx false
inductive aH where
 |int (i:Int)|nil|gZ (i:Int)
inductive aB where
 |leaf (l:aH)|jc (l:aH)|iN (ls:List aH)
inductive cK where
 |bind (n:Str)|lit (l:aH)|alt (ls:List aH)
inductive Tr (α:Type)where
 |leaf (l:aH)
 |jT (s:Option α) (ws:List (List aB×α)) (o:Option α)
 |jD (s:α) (arms:List (cK×Option Int×α)) (o:Option α)
 |j9 (s:α) (p:cK)
 |jE (s:α) (p:cK)
inductive Mark where
 |made (i:Int)|asked (first value:Val)|guard (i:Int)|bound (n:Str) (v:Val)
noncomputable def Val.v:Val→V:=fun x=>match x with
 |.none=>.none
 |.bool b=>.bool b
 |.int i=>.int i
noncomputable def Rz.v:Rz→V:=fun x=>match x with
 |.int i=>.int i
 |.str s=>.str s
noncomputable def aH.it:aH→List V:=fun l=>match l with
 |.int i=>[.str "int",.int i]
 |.nil=>[.str "nil"]
 |.gZ i=>[.str "toss",.int i]
noncomputable def aH.v(l:aH):V:=.tup l.it
noncomputable def aB.v:aB→V:=fun t=>match t with
 |.leaf l=>l.v
 |.jc l=>.tup [.str "splat",l.v]
 |.iN ls=>.tup [.str "splat",.tup [.str "list",.lst (ls.map aH.v)]]
noncomputable def cK.v:cK→V:=fun p=>match p with
 |.bind n=>.tup [.str "bind",.str n]
 |.lit l=>.tup [.str "lit",l.v]
 |.alt ls=>.tup [.str "alt",.lst (ls.map fun l=>.tup [.str "lit",l.v])]
noncomputable def m7{α:Type}(f:α→V):Option α→V:=fun o=>match o with
 |none=>.none
 |some a=>f a
noncomputable def wV:Option Int→V:=fun o=>match o with
 |none=>.none
 |some n=>.tup [.str "guard",.int n]
noncomputable def Tr.it{α:Type}(f:α→V):Tr α→List V:=fun t=>match t with
 |.leaf l=>l.it
 |.jT s ws o=>[.str "case",m7 f s,.lst (ws.map fun w=>.tup [.lst (w.1.map aB.v),f w.2]),m7 f o]
 |.jD s arms o=>[.str "casein",f s,.lst (arms.map fun a=>.tup [a.1.v,wV a.2.1,f a.2.2]),m7 f o]
 |.j9 s p=>[.str "matchp",f s,p.v]
 |.jE s p=>[.str "matchq",f s,p.v]
noncomputable def Tr.v{α:Type}(f:α→V)(t:Tr α):V:=.tup (t.it f)
noncomputable def Mark.v:Mark→V:=fun m=>match m with
 |.made i=>.tup [.str "made",.int i]
 |.asked a b=>.tup [.str "asked",a.v,b.v]
 |.guard i=>.tup [.str "guard",.int i]
 |.bound n b=>.tup [.str "bound",.str n,b.v]
noncomputable def bu.v:bu→V:=fun w=>match w with
 |.val x=>.tup [.str "value",x.v]
 |.raise z=>.tup [.str "raise",z.v]
abbrev Rd:=List Mark×bu
noncomputable def Val.holds:Val→Bool
 |.none=>false
 |.bool b=>b
 |.int _=>true
noncomputable def Val.weight:Val→Int
 |.none=>7
 |.bool true=>5
 |.bool false=>6
 |.int i=>i
noncomputable def wW(n:Int):Val:=if n=0 then .bool true else if n=1 then .int 0 else if n=2 then .none else .bool false
noncomputable def Uw:Val→Bool
 |.int i=>i==8
 |_=>false
noncomputable def cL(first value:Val):bu:=if Uw first=true then .raise (.int 80)else .val (wW ((first.weight+value.weight)%4))
noncomputable def dM(n:Int):bu:=if n=5 then .raise (.int 90)else .val (if n=4 then .int 7 else wW n)
noncomputable def eE:Val→Str
 |.none=>"nil"
 |.bool true=>"true"
 |.bool false=>"false"
 |.int i=>Str.ofString (toString i)
noncomputable def jF(x:Val):Rz:=.str ("NoMatchingPatternError "++eE x)
noncomputable def aH.rd:aH→Rd
 |.int i=>([.made i],.val (.int i))
 |.nil=>([],.val .none)
 |.gZ i=>([],.raise (.int i))
noncomputable def bZ:List aH→List Mark×dK
 |[]=>([],.vals [])
 |l::ls=>match l.rd with
  |(mk,.raise z)=>(mk,.raise z)
  |(mk,.val x)=>match bZ ls with
   |(Fg,.raise z)=>(mk++Fg,.raise z)
   |(Fg,.vals xs)=>(mk++Fg,.vals (x::xs))
noncomputable def aB.rd:aB→List Mark×dK
 |.leaf l=>bZ [l]
 |.iN ls=>bZ ls
 |.jc l=>match l.rd with
  |(mk,.raise z)=>(mk,.raise z)
  |(mk,.val x)=>(mk,.vals (match x with|.none=>[]|_=>[x]))
noncomputable def wX(ay:Option Val)(v:Val):Rd:=match ay with
 |some s=>([.asked v s],cL v s)
 |none=>([],.val v)
noncomputable def kc(ay:Option Val):List Val→List Mark×wU
 |[]=>([],.miss)
 |v::vs=>match wX ay v with
  |(mk,.raise z)=>(mk,.raise z)
  |(mk,.val x)=>if x.holds=true then(mk,.hit)else(mk++(kc ay vs).1,(kc ay vs).2)
noncomputable def jn(ay:Option Val):List aB→List Mark×wU
 |[]=>([],.miss)
 |t::ts=>match t.rd with
  |(mk,.raise z)=>(mk,.raise z)
  |(mk,.vals vs)=>match kc ay vs with
   |(Fg,.miss)=>(mk++Fg++(jn ay ts).1,(jn ay ts).2)
   |(Fg,o)=>(mk++Fg,o)
noncomputable def lR{α:Type}(rd:α→Rd)(z:bu):Option α→Rd
 |none=>([],z)
 |some a=>rd a
noncomputable def after(mk:List Mark)(r:Rd):Rd:=(mk++r.1,r.2)
noncomputable def fc{α:Type}(rd:α→Rd)(ay:Option Val)(o:Option α):List (List aB×α)→Rd
 |[]=>lR rd (.val .none) o
 |(ts,b)::ws=>match jn ay ts with
  |(mk,.raise z)=>(mk,.raise z)
  |(mk,.hit)=>after mk (rd b)
  |(mk,.miss)=>after mk (fc rd ay o ws)
inductive ff where
 |val (b:Bool)|raise (z:Rz)
noncomputable def aH.fits(l:aH)(value:Val):List Mark×ff:=match l.rd with
 |(mk,.raise z)=>(mk,.raise z)
 |(mk,.val x)=>match cL x value with
  |.raise z=>(mk++[.asked x value],.raise z)
  |.val y=>(mk++[.asked x value],.val y.holds)
noncomputable def cU(value:Val):List aH→List Mark×ff
 |[]=>([],.val false)
 |l::ls=>match l.fits value with
  |(mk,.raise z)=>(mk,.raise z)
  |(mk,.val true)=>(mk,.val true)
  |(mk,.val false)=>(mk++(cU value ls).1,(cU value ls).2)
noncomputable def cK.fits(value:Val):cK→List Mark×ff
 |.bind n=>([.bound n value],.val true)
 |.lit l=>l.fits value
 |.alt ls=>cU value ls
noncomputable def cI{α:Type}(rd:α→Rd)(value:Val)(o:Option α):List (cK×Option Int×α)→Rd
 |[]=>lR rd (.raise (jF value)) o
 |(p,g,b)::as=>match p.fits value with
  |(mk,.raise z)=>(mk,.raise z)
  |(mk,.val false)=>after mk (cI rd value o as)
  |(mk,.val true)=>match g with
   |none=>after mk (rd b)
   |some n=>match dM n with
    |.raise z=>(mk++[.guard n],.raise z)
    |.val x=>if x.holds=true then after (mk++[.guard n]) (rd b)else after (mk++[.guard n]) (cI rd value o as)
noncomputable def dh(r:Rd)(f:Val→Rd):Rd:=match r with
 |(mk,.raise z)=>(mk,.raise z)
 |(mk,.val x)=>after mk (f x)
noncomputable def gM(p:cK)(x:Val):Rd:=match p.fits x with
 |(mk,.raise z)=>(mk,.raise z)
 |(mk,.val b)=>(mk,.val (.bool b))
noncomputable def eg(p:cK)(x:Val):Rd:=match p.fits x with
 |(mk,.raise z)=>(mk,.raise z)
 |(mk,.val true)=>(mk,.val .none)
 |(mk,.val false)=>(mk,.raise (jF x))
noncomputable def Tr.rd{α:Type}(rd:α→Rd):Tr α→Rd
 |.leaf l=>l.rd
 |.jT none ws o=>fc rd none o ws
 |.jT (some s) ws o=>dh (rd s) fun x=>fc rd (some x) o ws
 |.jD s arms o=>dh (rd s) fun x=>cI rd x o arms
 |.j9 s p=>dh (rd s) (gM p)
 |.jE s p=>dh (rd s) (eg p)
noncomputable def Val.ok:Val→Prop
 |.int i=>0≤i∧i≤8
 |_=>True
noncomputable def aH.ok:aH→Prop
 |.int i=>0≤i∧i≤8
 |.nil=>True
 |.gZ i=>0≤i∧i≤100
noncomputable def aB.ok:aB→Prop
 |.leaf l=>l.ok
 |.jc l=>l.ok
 |.iN ls=>ls.length≤3∧∀l∈ls,l.ok
def ny(n:Str):Prop:=∀c∈n.cps.toList,c<16^8
theorem lH(s:String):ny (Str.ofString s):=by
 intro c hc;rw[Str.ofString_eq_toList]at hc;simp only[List.mem_map]at hc;obtain⟨a,_,rfl⟩:=hc;have:=UInt32.toNat_lt a.val;show a.val.toNat<16^8;omega
theorem CS(h:ny a)(k:ny b):ny (a++b):=by
 intro c hc;have:c∈(a.cps++b.cps).toList:=hc;rw[Array.toList_append]at this;rcases List.mem_append.mp this with q|q
 ·exact h c q
 ·exact k c q
noncomputable def cK.ok:cK→Prop
 |.bind n=>n.length≤100∧ny n
 |.lit l=>l.ok
 |.alt ls=>ls.length≤3∧∀l∈ls,l.ok
noncomputable def oX{α:Type}(ok:α→Prop):Option α→Prop
 |none=>True
 |some a=>ok a
noncomputable def oN:Option Int→Prop
 |none=>True
 |some n=>0≤n∧n≤5
noncomputable def Tr.ok{α:Type}(ok:α→Prop):Tr α→Prop
 |.leaf l=>l.ok
 |.jT s ws o=>oX ok s∧(ws.length≤3∧∀w∈ws,((1≤w.1.length∧w.1.length≤2)∧∀t∈w.1,t.ok)∧ok w.2)∧oX ok o
 |.jD s arms o=>ok s∧(arms.length≤3∧∀a∈arms,a.1.ok∧oN a.2.1∧ok a.2.2)∧oX ok o
 |.j9 s p=>ok s∧p.ok
 |.jE s p=>ok s∧p.ok
noncomputable def Tree:Nat→Type
 |0=>aH
 |n+1=>Tr (Tree n)
noncomputable def Tree.it:(n:Nat)→Tree n→List V
 |0=>aH.it
 |n+1=>Tr.it fun a=>.tup (Tree.it n a)
noncomputable def Tree.v(n:Nat)(t:Tree n):V:=.tup (Tree.it n t)
noncomputable def Tree.rd:(n:Nat)→Tree n→Rd
 |0=>aH.rd
 |n+1=>Tr.rd (Tree.rd n)
noncomputable def Tree.ok:(n:Nat)→Tree n→Prop
 |0=>aH.ok
 |n+1=>Tr.ok (Tree.ok n)
noncomputable abbrev dF:ai→Bool:=pS 0
noncomputable def ku:AO→Bool:=fun o=>match o with
 |.inst _ _=>false
 |.list _ vs=>bB vs
 |.dict fs=>dF fs
section
variable{P:Params}{st:St}
theorem GU(h:bF I P σ n v x)(e:dF v=true):bF I P (fun _=>0) 0 v x:=Eg (fun _ _ e=>e) (fun k q=>absurd q (qr k)) (qf 0) h e
theorem yR(h:dw I P σ n o x)(c:ku o=true):dw I P af m o x:=by
 induction h using dw.casesOn with
 |inst C d hd=>exact ft c
 |list ep hp r=>exact .list ep hp (mz r c).up
 |dict ep r=>exact .dict ep (GU r c).up
theorem JT(r:cF P I σ st h)(e:st[l]? =some o)(c:ku o=true):cF P I (fun _=>σ l) [o] h:=by
 have hl:l<st.length:=(List.getElem?_eq_some_iff.mp e).1;refine⟨r.sub,fun k x q=> ?_,fun j k hj hk _=> ?_,fun k hk=>r.out l hl⟩
 ·induction k using qk with
  |zero=>
   obtain rfl:=qc q;obtain⟨ob,g,gC⟩:=r.cells l o e;exact⟨ob,g,yR gC c⟩
  |succ k=>exact nn q
 ·simp at hj hk;lia
theorem HL(r:cF P I σ st h)(e:st[l]? =some o)(x:aM P X I (fun _=>σ l) 1 h I' af [o'] h')(c:ku o'=true)(hX:∀k,k<st.length→¬X (σ k)):
  aM P X I σ st.length h I' σ (cD st l o') h':=by
 have hl:l<st.length:=(List.getElem?_eq_some_iff.mp e).1;have ln:(cD st l o').length=st.length:=by rw[eK];simp
 have s0:af 0=σ l:=x.le.s 0 (by decide);have apart:∀k,k<st.length→I' (σ k)=none:=fun k hk=>by
  induction q:I' (σ k)using qe with
  |none=>rfl
  |some ob=>
   rcases x.fresh _ _ q with z|z
   ·rw[r.out k hk]at z;exact nn z
   ·obtain⟨o1,g⟩:=r.live hk;rw[z]at g;exact nn g
 refine⟨⟨x.le.i,fun _ _=>rfl,by rw[ln];exact qf _⟩,x.fresh,fun k a b=>absurd a (by lia),⟨x.rel.sub,fun k q hq=> ?_,fun j k hj hk=>r.inj j k (ln▸hj) (ln▸hk),fun k hk=>apart k (ln▸hk)⟩,fun b ob hb hx hk=>x.keep b ob hb hx fun k nI=> ?_,x.alive⟩
 ·rw[eK,List.getElem?_set]at hq;rw[ln];by_cases z:l=k
  ·subst z;rw[if_pos rfl,if_pos hl]at hq;obtain rfl:=qc hq;obtain⟨ob,g,gC⟩:=x.rel.cells 0 o' rfl;rw[s0]at g;exact⟨ob,g,yR gC c⟩
  ·rw[if_neg z]at hq;have hk:k<st.length:=(List.getElem?_eq_some_iff.mp hq).1;obtain⟨ob,g,gC⟩:=r.cells k q hq;refine⟨ob,x.keep _ ob g (hX k hk) fun j hj w=>z (r.inj l k hl hk w),gC.mono ⟨x.le.i,fun _ _=>rfl,qf _⟩⟩
 ·exact hk l hl
end
theorem Ux(Sd:aU cx ev){I:IM}{σ:Nat→Addr}{st:St}{s:Shared}{E:dS}{a:Addr}{fd:FuncData×List V}{as:List V}{ys:LV}{Q:dS}{o:AO}{W:V→AO→Prop}
  (hf:oh a cx.tab.fns=some fd)(H:au cx (k+1) A I σ st s)(e:st[l]? =some o)(c:ku o=true)(ca:bB as=true)(r:aG I cx.P σ st.length (.loc l::as) ys)
  (g:Good cx.S cx.pre (fV ev k fd.1 fd.2 [] (.loc 0::as) [o]) fun p=>∀af,∃v' o',Fz af 1 p.2 false p.1 v'∧CR af 1 p.2 [o']∧aJ v'=true∧ku o'=true∧W v' o')
  (hW:∀v' o',W v' o'→EV cx I σ st s Q (v',cD st l o')):wpAny cx.M A (call (.ref a) ys) Q E s:=by
 have H1:au cx (k+1) A I (fun _=>σ l) [o] s:=⟨H.fit,H.base,JT H.rel e c⟩;replace r:=r.inv;induction r using dP.casesOn with
 |mk h1 r=>
   obtain⟨rfl,hl⟩:=uf h1;have r1:aG I cx.P (fun _=>σ l) [o].length (.loc 0::as) (.ref (σ l)::_):=.cons (aq.loc (σ:=fun _=>σ l) 0 (by show 0<1;decide)) (mz r ca).up;refine tW Sd (W:=fun v' iI=>∃o',iI=[o']∧aJ v'=true∧ku o'=true∧W v' o') hf H1 r1 (Good.mono (fun p gp af hs=> ?_) g) fun v' iI w=> ?_
   ·obtain⟨v',o',f1,f2,c1,c2,w⟩:=gp af;exact⟨v',[o'],f1,f2,o',rfl,c1,c2,w⟩
   ·obtain⟨o',rfl,c1,c2,w⟩:=w;intro I' af y s' x sm ry;have x2:=HL H.rel e x c2 (fun _ _ q=>q);exact hW v' o' w I' σ y s' x2 sm (ki ry c1).up
theorem B3(h:HK σ 1 (o::rest) o o'):CR σ 1 (o::rest) [o']:=by
 refine⟨rfl,by exact rF,fun k x x' hk e e'=> ?_⟩;obtain rfl:k=0:=by lia
 obtain rfl:=qc e;obtain rfl:=qc e';exact h
theorem fh{st:St}{m:Bool}:∀{vs:List V},bB vs=true→yQ σ n st m vs vs
 |[],_=>.nil
 |v::vs,h=>.cons (.closed (bk h).1) (fh (bk h).2)
set_option genCtorIdx true in
inductive Vw (α:Type)where
 |ok (p:Prop) (a:α)
 |ask (p:Prop) (d:Nat) (f:Addr) (as:List V) (st:St)
 |fork (p:Prop) (b:Bool)
 |pick (p:Prop) (vs:List V) (i:Int)
 |loop (p:Prop) (vs:List V) (m:ai) (st:St)
 |bad
noncomputable def HM{α:Type}(p:Prop):aA α→Vw α
 |.ok a=>.ok p a
 |.ask d f as st _=>.ask p d f as st
 |.fork b _=>.fork p b
 |.pick vs i _=>.pick p vs i
 |.loop _ _ vs m st _=>.loop p vs m st
 |_=>.bad
noncomputable def vw{α:Type}(r:aA α):Vw α:=HM (eZ r) (strip r)
section
variable{α:Type}
theorem WN(h:HM p s=.ok q a):s=.ok a∧p=q:=by
 induction s using aA.casesOn with
 |ok=>injection h with a b;exact⟨congrArg aA.ok b,a⟩
 |_=>cases h
theorem xZ{f:Addr}{as:List V}{st:St}(h:HM p s=.ask q D f as st):∃k,s=.ask D f as st k∧p=q:=by
 induction s using aA.casesOn with
 |ask=>injection h with a b c d e;exact⟨_,by rw[b,c,d,e],a⟩
 |_=>cases h
theorem P6{m:ai}{st:St}(h:HM p s=.loop q vs m st):∃t kp k,s=.loop t kp vs m st k∧p=q:=by
 induction s using aA.casesOn with
 |loop=>injection h with a b c d;exact⟨_,_,_,by rw[b,c,d],a⟩
 |_=>cases h
theorem Fi(h:HM p s=.fork q b):∃k,s=.fork b k∧p=q:=by
 induction s using aA.casesOn with
 |fork=>injection h with a b;exact⟨_,by rw[b],a⟩
 |_=>cases h
theorem Fj(h:HM p s=.pick q vs i):∃k,s=.pick vs i k∧p=q:=by
 induction s using aA.casesOn with
 |pick=>injection h with a b c;exact⟨_,by rw[b,c],a⟩
 |_=>cases h
noncomputable def zD{α:Type}(w:Vw α):Option (Prop×α):=match w with
 |.ok p a=>some (p,a)
 |_=>none
theorem rj(h:zD w=some x):w=.ok x.1 x.2:=by
 induction w using Vw.casesOn with
 |ok=>obtain rfl:=qc h;rfl
 |_=>exact nn h
noncomputable def DC{α:Type}(w:Vw α):Option (Prop×Nat×Addr×List V×St):=match w with
 |.ask p d f as st=>some (p,d,f,as,st)
 |_=>none
theorem zE(h:DC w=some x):w=.ask x.1 x.2.1 x.2.2.1 x.2.2.2.1 x.2.2.2.2:=by
 induction w using Vw.casesOn with
 |ask=>obtain rfl:=qc h;rfl
 |_=>exact nn h
end
section
variable{α:Type}
theorem oY(q:Q a)(hp:p)(h:vw r=.ok p a):Gd S pre r Q:=
 have e:=WN h
 ⟨gk (e.2▸hp) (e.1▸q)⟩
theorem Fl{f:Addr}{as:List V}{st:St}(W:V→St→Prop)(hs:S D f as st W)(hk:∀v st',W v st'→Gd S pre (jS r v st') Q)(hp:p)(h:vw r=.ask p D f as st):Gd S pre r Q:=by
 obtain⟨k,e,e2⟩:=xZ h;exact⟨gk (e2▸hp) (by rw[e];exact⟨W,hs,fun v st' w=>by have g:=(hk v st' w).out;unfold jS at g;rw[e]at g;exact g⟩)⟩
theorem HN(hk:∀c,Gd S pre (ah r c) Q)(hp:p)(h:vw r=.fork p b):Gd S pre r Q:=by
 obtain⟨k,e,e2⟩:=Fi h;exact⟨gk (e2▸hp) (by rw[e];have g:=(hk b).out;unfold ah at g;rw[e]at g;exact g)⟩
theorem HP(j:Nat)(hi:i=Int.ofNat j)(hv:vs[j]? =some v)(hl:vs.length<500)(hk:Gd S pre (bE r v) Q)(hp:p)(h:vw r=.pick p vs i):Gd S pre r Q:=by
 obtain⟨k,e,e2⟩:=Fj h;exact⟨gk (e2▸hp) (by rw[e];have g:=hk.out;unfold bE at g;rw[e]at g;exact⟨j,v,hi,hv,hl,g⟩)⟩
theorem HQ{m:ai}{st:St}(Inv:List V→ai→St→Prop)(h0:Inv vs m st)
  (h1:∀v rest m st,Inv (v::rest) m st→∀P:cz→Prop,(∀m' st',Inv rest (lF r m') st'→P ((.next,m'),st'))→(∀u m' st',Gd S pre (ja r ((.ret u,m'),st')) Q→P ((.ret u,m'),st'))→Gd S pre (i9 r v m st) P)
  (h2:∀m st,Inv [] m st→Gd S pre (ja r ((.next,m),st)) Q)(hp:p)(h:vw r=.loop p vs m st):Gd S pre r Q:=by
 obtain⟨t,kp,k,e,e2⟩:=P6 h;exact BZ vs m st Inv (congrArg Fc e) ⟨e2▸hp⟩ h0 (fun v rest m st hi=>h1 v rest m st hi _ (fun _ _ x=>x) fun _ _ _ x=>x) h2
theorem ig{β ς:Type}(f:β→V)(mf:ς→ai)(sf:ς→St)(wY:List β→ς→Prop){xs:List β}{s0:ς}(t0:wY xs s0)
  (hb:∀x xs s,wY (x::xs) s→∀P:cz→Prop,(∀s' m,wY xs s'→lF r m=mf s'→P ((.next,m),sf s'))→(∀u m st,Gd S pre (ja r ((.ret u,m),st)) Q→P ((.ret u,m),st))→Gd S pre (i9 r (f x) (mf s) (sf s)) P)
  (he:∀s,wY [] s→Gd S pre (ja r ((.next,mf s),sf s)) Q)(h:vw r=.loop True (xs.map f) (mf s0) (sf s0):=by kernel_rfl):Gd S pre r Q:=by
 refine HQ (fun vs m st=>∃xs s,vs=List.map f xs∧m=mf s∧st=sf s∧wY xs s) ⟨xs,s0,rfl,rfl,rfl,t0⟩ (fun v rest m st hi P hn hr=> ?_) (fun m st hi=> ?_) trivial h
 ·obtain⟨ys,s,e1,e2,e3,t⟩:=hi;rw[e2,e3];induction ys using qh with
  |nil=>cases e1
  |cons y ys=>
   injection e1 with e1 e4;rw[e1];exact hb y ys s t P (fun s' m tt e=>hn m _ ⟨ys,s',e4,e,rfl,tt⟩) hr
 ·obtain⟨ys,s,e1,e2,e3,t⟩:=hi;induction ys using qh with
  |nil=>rw[e2,e3];exact he s t
  |cons y ys=>cases e1
theorem uC{ς:Type}(mf:ς→ai)(sf:ς→St)(wY:Nat→ς→Prop){a m:Nat}{s0:ς}(t0:wY m s0)
  (hb:∀a m s,wY (m+1) s→∀P:cz→Prop,(∀s' l,wY m s'→lF r l=mf s'→P ((.next,l),sf s'))→Gd S pre (i9 r (.int (.ofNat a)) (mf s) (sf s)) P)
  (he:∀s,wY 0 s→Gd S pre (ja r ((.next,mf s),sf s)) Q)(hm:m<1000)(h:vw r=.loop (m<1000∧True) (intsFrom a m) (mf s0) (sf s0):=by kernel_rfl):Gd S pre r Q:=by
 refine HQ (fun vs l st=>∃a m s,vs=intsFrom a m∧l=mf s∧st=sf s∧wY m s) ⟨a,m,s0,rfl,rfl,rfl,t0⟩ (fun v rest l st hi P hn hr=> ?_) (fun l st hi=> ?_) ⟨hm,trivial⟩ h
 ·obtain⟨a,m,s,e1,e2,e3,t⟩:=hi;rw[e2,e3];induction m using qk with
  |zero=>cases e1
  |succ m=>
   injection e1 with e1 e4;rw[e1];exact hb a m s t P fun s' l tt e=>hn l _ ⟨Nat.succ a,m,s',e4,e,rfl,tt⟩
 ·obtain⟨a,m,s,e1,e2,e3,t⟩:=hi;induction m using qk with
  |zero=>rw[e2,e3];exact he s t
  |succ m=>cases e1
noncomputable def vd(f:ai→ai)(r:aA cz):Option (Prop×Out×ai×St):=(zD (vw r)).map fun x=>(x.1,x.2.1.1,f x.2.1.2,x.2.2)
theorem HR{o:Out}{m:ai}{st:St}(h:vd f u=some (p,o,m,st)):∃m',f m'=m∧vw u=.ok p ((o,m'),st):=by
 obtain⟨x,e,h⟩:=Option.map_eq_some_iff.mp h;have h1:=qQ h;have h2:=qQ h1.2;have h3:=qQ h2.2;exact⟨x.2.1.2,h3.1,by rw[←h1.1,←h2.1,←h3.2];exact rj e⟩
theorem gO{ς:Type}{mf:ς→ai}{sf:ς→St}{t:ς→Prop}{P:cz→Prop}{u:aA cz}{p:Prop}(hn:∀s' m,t s'→lF r m=mf s'→P ((.next,m),sf s'))(s:ς)(ht:t s)(hp:p)(h:vd (lF r) u=some (p,.next,mf s,sf s)):Gd S pre u P:=
 let⟨m,e,h⟩:=HR h
 oY (hn s m ht e) hp h
theorem jG{ς:Type}{mf:ς→ai}{sf:ς→St}{t:ς→Prop}{P:cz→Prop}{u:aA cz}(hn:∀s' m,t s'→lF r m=mf s'→P ((.next,m),sf s'))(s:ς)(ht:t s)(h:vd (lF r) u=some (True,.next,mf s,sf s):=by kernel_rfl):Gd S pre u P:=gO hn s ht trivial h
theorem iy{x:aA cz}(hr:∀u m st,Gd S pre (ja r ((.ret u,m),st)) Q→P ((.ret u,m),st))(u:V)(st:St)(hk:∀m,Gd S pre (ja r ((.ret u,m),st)) Q)(h:vd (fun _=>[]) x=some (True,.ret u,[],st):=by kernel_rfl):Gd S pre x P:=
 let⟨m,_,h⟩:=HR h
 oY (hr u m st (hk m)) trivial h
end
noncomputable def kH(G:List Int)(c sd b:Int):AO:=.list [] [.lst (G.map V.num),.num c,.num sd,.num b]
inductive Bg (k:Nat):AO→Prop
 |mk {G:List Int} {c sd b:Int} (g:G.length≤24) (c0:0≤c) (c1:c+k≤1000000) (s0:0≤sd) (s1:sd<2147483648):Bg k (kH G c sd b)
theorem Bg.le(h:Bg m o)(e:k≤m):Bg k o:=by
 induction h using Bg.casesOn with|mk g c0 c1 s0 s1=>exact .mk g c0 (by lia) s0 s1
theorem Bg.closed(h:Bg k o):ku o=true:=by induction h using Bg.casesOn;rfl
noncomputable def dv(n:Nat):Nat:=Nat.rec 1 (fun _ e=>e*5+100) n
noncomputable def ve{d:Nat}(w:List aB×Tree d):V:=.tup [.lst (w.1.map aB.v),Tree.v d w.2]
noncomputable def tX{d:Nat}(a:cK×Option Int×Tree d):V:=.tup [a.1.v,wV a.2.1,Tree.v d a.2.2]
noncomputable def pH(d:Nat)(t:Tr (Tree d)):Tree (d+1):=t
def gQ{d:Nat}(ws:List (List aB×Tree d)):Prop:=∀w∈ws,((1≤w.1.length∧w.1.length≤2)∧∀t∈w.1,t.ok)∧Tree.ok d w.2
def oO{d:Nat}(as:List (cK×Option Int×Tree d)):Prop:=∀a∈as,a.1.ok∧oN a.2.1∧Tree.ok d a.2.2
inductive iz where
 |take (m:Nat)|leaf|test|pat|value (n:Nat)|lS (n:Nat)|arms (n:Nat)
noncomputable def iz.fn(x:iz):Addr:=match x with
 |.take _=>1127
 |.leaf=>1148
 |.test=>1153
 |.pat=>1163
 |.value _=>1134
 |.lS _=>1158
 |.arms _=>1170
noncomputable def iz.args(x:iz):List V:=match x with
 |.take m=>[.int (.ofNat m)]
 |.value n=>[.int (.ofNat n)]
 |.lS n=>[.int (.ofNat (n+1))]
 |.arms n=>[.int (.ofNat (n+1))]
 |_=>[]
noncomputable def iz.cost(x:iz):Nat:=match x with
 |.take _=>1
 |.leaf=>2
 |.value n=>dv n
 |.lS n=>dv n*3+70
 |.arms n=>dv n*3+70
 |_=>10
noncomputable def iz.room(x:iz):Nat:=match x with
 |.take _=>3
 |.leaf=>5
 |.value n=>10*n+10
 |.lS n=>10*n+13
 |.arms n=>10*n+13
 |_=>8
noncomputable def iz.rank(x:iz):Nat:=match x with
 |.take _=>0
 |.leaf=>1
 |.value n=>3*n+3
 |.lS n=>3*n+4
 |.arms n=>3*n+4
 |_=>2
def iz.WO(x:iz):Prop:=match x with
 |.take m=>0<m∧m≤10
 |.value n=>n≤2
 |.lS n=>n≤1
 |.arms n=>n≤1
 |_=>True
def iz.is(x:iz)(v:V):Prop:=match x with
 |.take m=>∃i:Nat,i<m∧v=.int (.ofNat i)
 |.leaf=>∃l:aH,l.ok∧v=l.v
 |.test=>∃t:aB,t.ok∧v=t.v
 |.pat=>∃q:cK,q.ok∧v=q.v
 |.value n=>∃t:Tree n,Tree.ok n t∧v=Tree.v n t
 |.lS n=>∃ws:List (List aB×Tree n),(ws.length≤3∧gQ ws)∧v=.lst (ws.map ve)
 |.arms n=>∃as:List (cK×Option Int×Tree n),(as.length≤3∧oO as)∧v=.lst (as.map tX)
noncomputable def jr(n:Nat):Spec:=fun d f as st W=>∃(x:iz) (l:Nat) (o:AO) (k:Nat),x.rank<n∧x.WO∧f=x.fn∧as=.loc l::x.args∧x.room≤d∧di st l=some o∧Bg (k+x.cost) o∧∀v o',x.is v→Bg k o'→W v (cD st l o')
noncomputable def JU:List Addr:=[1127,1148,1153,1163,1134,1158,1170]
noncomputable def HS(p:Program)(w:World)(K:Frag)(n:Nat):Cx:=kP p w (jr n) aI JU K
theorem gr{α:Type}{f:α→V}(h:∀a,aJ (f a)=true)(l:List α):bB (l.map f)=true:=by
 induction l with
 |nil=>rfl
 |cons a l ih=>exact dg (h a) ih
theorem jd(s:Str):aJ (.str s)=true:=rfl
theorem MV(vs:List V):aJ (.lst vs)=true:=rfl
theorem lU(ha:aJ a=true)(hb:aJ b=true):aJ (.tup [a,b])=true:=dg ha (dg hb rfl)
theorem oQ(ha:aJ a=true)(hb:aJ b=true)(hc:aJ c=true):aJ (.tup [a,b,c])=true:=dg ha (lU hb hc)
theorem HU(ha:aJ a=true)(hb:aJ b=true)(hc:aJ c=true)(hd:aJ d=true):aJ (.tup [a,b,c,d])=true:=dg ha (oQ hb hc hd)
theorem gf(l:aH):aJ l.v=true:=by induction l using aH.casesOn<;>rfl
theorem mF(t:aB):aJ t.v=true:=by
 induction t using aB.casesOn with
 |leaf l=>exact gf l
 |jc l=>exact lU rfl (gf l)
 |iN ls=>rfl
theorem lV(t:cK):aJ t.v=true:=by
 induction t using cK.casesOn with
 |lit l=>exact lU rfl (gf l)
 |_=>rfl
theorem oZ{α:Type}{f:α→V}(h:∀a,aJ (f a)=true)(o:Option α):aJ (m7 f o)=true:=by
 induction o using qe with
 |none=>rfl
 |some a=>exact h a
theorem Fo(g:Option Int):aJ (wV g)=true:=by induction g using qe<;>rfl
theorem MW{α:Type}{f:α→V}(h:∀a,aJ (f a)=true)(t:Tr α):aJ (t.v f)=true:=by
 induction t using Tr.casesOn with
 |leaf l=>exact gf l
 |jT s ws o=>exact HU rfl (oZ h s) rfl (oZ h o)
 |jD s arms o=>exact HU rfl (h s) rfl (oZ h o)
 |j9 s p=>exact oQ rfl (h s) (lV p)
 |jE s p=>exact oQ rfl (h s) (lV p)
theorem fN(n:Nat):∀t:Tree n,aJ (Tree.v n t)=true:=by
 induction n with
 |zero=>exact gf
 |succ n ih=>exact MW ih
theorem iz.closed{x:iz}(h:x.is v):aJ v=true:=by
 induction x using iz.casesOn with
 |take=>obtain⟨_,_,e⟩:=h;subst e;rfl
 |leaf=>obtain⟨_,_,e⟩:=h;subst e;exact gf _
 |test=>obtain⟨_,_,e⟩:=h;subst e;exact mF _
 |pat=>obtain⟨_,_,e⟩:=h;subst e;exact lV _
 |value=>obtain⟨_,_,e⟩:=h;subst e;exact fN _ _
 |lS=>obtain⟨_,_,e⟩:=h;subst e;rfl
 |arms=>obtain⟨_,_,e⟩:=h;subst e;rfl
theorem Uy(x:iz):bB x.args=true:=by induction x using iz.casesOn<;>rfl
noncomputable def yS{α:Type}(r:aA α):Option (Prop×Nat×Addr×List V×Option AO):=(DC (vw r)).map fun x=>(x.1,x.2.1,x.2.2.1,x.2.2.2.1,di x.2.2.2.2 0)
noncomputable def uD(r:aA (V×St)):Option (Prop×V×Option AO):=(zD (vw r)).map fun x=>(x.1,x.2.1,di x.2.2 0)
noncomputable def oq{α:Type}(r:aA α)(v:V)(o:AO):aA α:=jS r v (cD (mq r) 0 o)
def vS(x:iz)(k:Nat)(p:V×St):Prop:=∀af,∃v' o',Fz af 1 p.2 false p.1 v'∧CR af 1 p.2 [o']∧x.is v'∧Bg k o'
section
variable{α:Type}
theorem sW(x:iz)(D k:Nat)(hr:x.rank<n)(hc:x.WO)(hD:x.room≤D)(b:Bg m o)(hm:k+x.cost≤m)(hk:∀v o',x.is v→Bg k o'→Gd (jr n) aI (oq r v o') Q)
  (h:yS r=some (True,D,x.fn,.loc 0::x.args,some o):=by kernel_rfl):Gd (jr n) aI r Q:=by
 obtain⟨⟨p,d,f,as,st⟩,e,h⟩:=Option.map_eq_some_iff.mp h;injection h with h1 h;injection h with h2 h;injection h with h3 h;injection h with h4 h;have e:=zE e;obtain⟨c,e',_⟩:=xZ e;have es:mq r=st:=congrArg AF e';exact Fl (fun v st'=>∃o',x.is v∧Bg k o'∧st'=cD st 0 o') ⟨x,0,o,k,hr,hc,h3,h4,h2▸hD,h,b.le hm,fun v o' i b=>⟨o',i,b,rfl⟩⟩ ((by rintro v st' ⟨o',i,b,e⟩;exact e▸es▸hk v o' i b)) (h1▸trivial) e
theorem x9(i:x.is v)(b:Bg k o)(fz:∀af st,vw r=.ok p (u,st)→Fz af 1 st false u v)(hp:p)(h:uD r=some (p,u,some o)):Gd (jr n) aI r (vS x k):=by
 obtain⟨⟨q,u',st⟩,e,j⟩:=Option.map_eq_some_iff.mp h;clear h;injection j with j1 j;injection j with j2 j;have e:=rj e;subst j1 j2;refine oY (fun af=>⟨v,o,fz af st e, ?_,i,b⟩) hp e;induction st using qh with
 |nil=>exact nn j
 |cons o' st=>
  injection j with j;rw[show o'=o from j];induction b using Bg.casesOn
  exact B3 (.list (fh rfl))
theorem r8(i:x.is v)(b:Bg k o)(h:uD r=some (True,v,some o):=by kernel_rfl):Gd (jr n) aI r (vS x k):=x9 i b (fun _ _ _=>.closed (iz.closed i)) trivial h
end
section
variable{P:Nat→Prop}
@[elab_as_elim] theorem Sn(h:i<1)(a:P 0):P i:=by induction i using qk with|zero=>exact a|succ i=>exact absurd h (Nat.not_lt_of_le (qg 1 i))
@[elab_as_elim] theorem WQ(h:i<2)(a:P 0)(b:P 1):P i:=by induction i using qk with|zero=>exact a|succ i=>exact Sn (P:=fun i=>P (i+1)) (qH h) b
@[elab_as_elim] theorem WR(h:i<3)(a:P 0)(b:P 1)(c:P 2):P i:=by induction i using qk with|zero=>exact a|succ i=>exact WQ (P:=fun i=>P (i+1)) (qH h) b c
@[elab_as_elim] theorem So(h:i<4)(a:P 0)(b:P 1)(c:P 2)(d:P 3):P i:=by induction i using qk with|zero=>exact a|succ i=>exact WR (P:=fun i=>P (i+1)) (qH h) b c d
@[elab_as_elim] theorem WS(h:i<5)(a:P 0)(b:P 1)(c:P 2)(d:P 3)(e:P 4):P i:=by induction i using qk with|zero=>exact a|succ i=>exact So (P:=fun i=>P (i+1)) (qH h) b c d e
@[elab_as_elim] theorem lt6(h:i<6)(a:P 0)(b:P 1)(c:P 2)(d:P 3)(e:P 4)(f:P 5):P i:=by induction i using qk with|zero=>exact a|succ i=>exact WS (P:=fun i=>P (i+1)) (qH h) b c d e f
@[elab_as_elim] theorem MX(h:i<8)(a:P 0)(b:P 1)(c:P 2)(d:P 3)(e:P 4)(f:P 5)(g:P 6)(j:P 7):P i:=by
 induction i using qk with
 |zero=>exact a
 |succ i=>induction i using qk with
  |zero=>exact b
  |succ i=>exact lt6 (P:=fun i=>P (i+1+1)) (qH (qH h)) c d e f g j
end
noncomputable def MY(sd c:Int):Int:=((sd+40123*(c+1))^(5:Int).toNat).fmod 2147483647
noncomputable def Sp(sd c:Int):Int:=((MY sd c+93089*(c+1))^(3:Int).toNat).fmod 2147483587
theorem CT(h0:y≠0)(h1:y.natAbs<1000):¬(Builtin.divisionGoesByPylong x y=true):=by
 unfold Builtin.divisionGoesByPylong;have:y.natAbs.log2<10:=(Nat.log2_lt (by lia)).mpr (by lia);simp only[Bool.and_eq_true,decide_eq_true_eq,not_and];intro h
 split at h<;>lia
def JV(sd c:Int):Prop:=IntMulOk 40123 (c+1)∧(0≤(5:Int)∧(Builtin.Int.intBits (sd+40123*(c+1)):Int)*5≤2^27)∧IntMulOk 93089 (c+1)∧(0≤(3:Int)∧(Builtin.Int.intBits (MY sd c+93089*(c+1)):Int)*3≤2^27)∧¬(Builtin.divisionGoesByPylong (Sp sd c) 16=true)∧True
theorem JW(h0:0≤c)(h1:c≤1000000)(h2:0≤sd)(h3:sd<2147483648):JV sd c:=by
 have b1:0≤MY sd c:=qO _ (by decide);have b2:MY sd c<2147483647:=Int.fmod_lt_of_pos _ (by decide);refine⟨IntMulOk.of_left (by decide+kernel),⟨by decide, ?_⟩,IntMulOk.of_left (by decide+kernel),⟨by decide, ?_⟩,CT (by decide) (by decide),trivial⟩
 ·have:=intBits_le_64 (k:=sd+40123*(c+1)) (by lia) (by lia);lia
 ·have:=intBits_le_64 (k:=MY sd c+93089*(c+1)) (by lia) (by lia);lia
section
variable{K:Frag}
theorem B4(x:Int)(h0:0<m):iz.is (.take m) (.int (x.fmod (.ofNat m))):=
 have h:(0:Int)<Int.ofNat m:=Int.ofNat_lt.mpr h0
 ⟨(x.fmod (.ofNat m)).toNat,(Int.toNat_lt (qO _ h)).mpr (Int.fmod_lt_of_pos _ h),congrArg V.int (Int.toNat_of_nonneg (qO _ h)).symm⟩
theorem Sq{α:Type _}{f g:Nat→α}(e:((List.range 10).map fun j=>f (j+1))=(List.range 10).map fun j=>g (j+1)){m:Nat}(h0:0<m)(h1:m≤10):f m=g m:=by
 have k:=List.map_inj_left.mp e (m-1) (List.mem_range.mpr (by omega))
 rwa [Nat.sub_add_cancel h0]at k
noncomputable def Ss(p:Program)(w:World)(K:Frag)(n m:Nat)(o:AO):aA (V×St):=fV (cX (HS p w K n) 60) 2 E2 [] [] [.loc 0,.int (.ofNat m)] [o]
theorem P7(h:0<m∧m≤10)(b:Bg (k+1) o):Gd (jr n) aI (Ss p w K n m o) (vS (.take m) k):=by
 induction b using Bg.casesOn with
 | @mk G c sd b g c0 c1 s0 s1=>
  induction G using qh with
  |nil=>
   have key:((List.range 10).map fun j=>uD (Ss p w K n (j+1) (kH [] c sd b)))=(List.range 10).map fun j=>some (JV sd c,.num (((Sp sd c).fdiv 16).fmod (.ofNat (j+1))),some (kH [] (c+1) sd b)):=kr;exact x9 (B4 ((Sp sd c).fdiv 16) h.1) (.mk g (by lia) (by lia) s0 s1) (fun _ _ _=>.num _) (JW c0 (by lia) s0 s1)
    (Sq (f:=fun m=>uD (Ss p w K n m (kH [] c sd b))) (g:=fun m=>some (JV sd c,.num (((Sp sd c).fdiv 16).fmod (.ofNat m)),some (kH [] (c+1) sd b))) key h.1 h.2)
  |cons x G=>
   let r:Nat→aA (V×St):=fun m=>Ss p w K n m (kH (x::G) c sd b)
   let f:Nat→aA (V×St):=fun m=>bE (bE (r m) (.num x)) (.num x)
   let vs:=V.num x::G.map V.num
   have lm:(G.map V.num).length=G.length:=List.length_map _;have lg:G.length+1≤24:=g;have lv:vs.length=G.length+1:=congrArg Nat.succ lm;have key:((List.range 10).map fun j=>(vw (r (j+1)),vw (bE (r (j+1)) (.num x)),(vw (f (j+1)),uD (ah (f (j+1)) false),uD (ah (f (j+1)) true))))=(List.range 10).map fun j=>
     (.pick True vs 0,.pick True vs 0,(.fork (¬(Builtin.divisionGoesByPylong x 10=true)∧True) (decide (0<x.fdiv 10)),
      some (([V.num (x.fdiv 10)].length<1000∧vs.length<1000∧([]:List V).length+(G.map V.num).length<1000∧True),.num ((x.fmod 10).fmod (.ofNat (j+1))),some (kH G (c+1) sd b)),
      some (([V.num (x.fdiv 10)].length<1000∧vs.length<1000∧[V.num (x.fdiv 10)].length+(G.map V.num).length<1000∧True),.num ((x.fmod 10).fmod (.ofNat (j+1))),some (kH (x.fdiv 10::G) (c+1) sd b)))):=kr
   have q:=qQ (Sq (f:=fun m=>(vw (r m),vw (bE (r m) (.num x)),(vw (f m),uD (ah (f m) false),uD (ah (f m) true)))) (g:=fun m=>(.pick True vs 0,.pick True vs 0,(.fork (¬(Builtin.divisionGoesByPylong x 10=true)∧True) (decide (0<x.fdiv 10)),
      some (([V.num (x.fdiv 10)].length<1000∧vs.length<1000∧([]:List V).length+(G.map V.num).length<1000∧True),.num ((x.fmod 10).fmod (.ofNat m)),some (kH G (c+1) sd b)),
      some (([V.num (x.fdiv 10)].length<1000∧vs.length<1000∧[V.num (x.fdiv 10)].length+(G.map V.num).length<1000∧True),.num ((x.fmod 10).fmod (.ofNat m)),some (kH (x.fdiv 10::G) (c+1) sd b))))) key h.1 h.2)
   have q2:=qQ q.2;have q3:=qQ q2.2;have q4:=qQ q3.2;show Gd _ _ (r m) _;refine HP 0 rfl rfl (by lia) ?_ trivial q.1;refine HP 0 rfl rfl (by lia) ?_ trivial q2.1;refine HN (fun cc=> ?_) ⟨CT (by decide) (by decide),trivial⟩ q3.1;induction cc using qd with
   |false=>exact x9 (B4 _ h.1) (.mk (by exact qL ‹_›) (by lia) (by lia) s0 s1) (fun _ _ _=>.num _) ⟨(by decide:1<1000),by lia,by rw[lm];show 0+_<_;lia,trivial⟩ q4.1
   |true=>exact x9 (B4 _ h.1) (.mk (G:=x.fdiv 10::G) lg (by lia) (by lia) s0 s1) (fun _ _ _=>.num _) ⟨(by decide:1<1000),by lia,by rw[lm];show 1+_<_;lia,trivial⟩ q4.2
end
inductive Ls {α:Type} (f:α→V) (ok:α→Prop) (q:Nat):List V→Prop
 |mk (ls:List α) (h:∀l∈ls,ok l) (n:ls.length+q≤3):Ls f ok q (ls.map f)
theorem Ls.snoc{α:Type}{f:α→V}{ok:α→Prop}{q:Nat}{vs:List V}{a:α}(h:Ls f ok (q+1) vs)(ha:ok a):Ls f ok q (vs++[f a]):=by
 induction h using Ls.casesOn with
 |mk ls h n=>
  have e:(ls++[a]).map f=ls.map f++[f a]:=List.map_append;rw[←e];exact .mk _ (fun l hl=>(List.mem_append.mp hl).elim (h l) fun q=>List.mem_singleton.mp q▸ha) (by rw[List.length_append];show ls.length+1+q≤3;lia)
theorem Ls.lt{α:Type}{f:α→V}{ok:α→Prop}{q:Nat}{vs:List V}(h:Ls f ok q vs):vs.length<500∧True:=by
 induction h using Ls.casesOn with
 |mk ls h n=>exact⟨by rw[List.length_map];lia,trivial⟩
section
variable{K:Frag}
theorem DE(st:St)(i:x.is v)(b:Bg k o)(fz:∀af,Fz af 1 (o::st) false u v)(hp:q)(h:vw r=.ok q (u,o::st)):Gd (jr n) aI r (vS x k):=
 oY (fun af=>⟨v,o,fz af,B3 (by induction b using Bg.casesOn;exact .list (fh rfl)),i,b⟩) hp h
noncomputable def MZ(p:Program)(w:World)(K:Frag)(n k:Nat)(fd:FuncData)(as:List V)(o:AO):aA (V×St):=fV (cX (HS p w K n) 60) k fd [] [] (.loc 0::as) [o]
def CU(p:Program)(w:World)(K:Frag)(n k:Nat)(fd:FuncData)(x:iz):Prop:=∀m o,Bg (m+x.cost) o→Gd (jr n) aI (MZ p w K n k fd x.args o) (vS x m)
section
variable{α:Type}{Q:α→Prop}{r:aA α}
theorem eL(D k t:Nat)(hn:0<n)(ht:0<t∧t≤10)(hD:3≤D)(b:Bg (k+1) o)(hk:∀i o',i<t→Bg k o'→Gd (jr n) aI (oq r (.int (.ofNat i)) o') Q)(h:yS r=some (True,D,1127,[.loc 0,.int (.ofNat t)],some o):=by kernel_rfl):Gd (jr n) aI r Q:=
 sW (.take t) D k hn ht hD b (qf _) ((by rintro v o' ⟨i,hi,e⟩ b;exact e▸hk i o' hi b)) h
theorem r9(D k:Nat)(hn:1<n)(hD:5≤D)(b:Bg (k+2) o)(hk:∀(l:aH) o',l.ok→Bg k o'→Gd (jr n) aI (oq r l.v o') Q)(h:yS r=some (True,D,1148,[.loc 0],some o):=by kernel_rfl):Gd (jr n) aI r Q:=
 sW .leaf D k hn trivial hD b (qf _) ((by rintro v o' ⟨i,hi,e⟩ b;exact e▸hk i o' hi b)) h
end
theorem P8(hn:0<n):CU p w K n 4 E3 .leaf:=fun m o b=>by
 refine eL 4 (m+1) 6 hn (by decide) (by decide) b fun i o hi b=> ?_;have A:∀{r:aA (V×St)},yS r=some (True,4,1127,[.loc 0,.int (.ofNat 9)],some o)→(∀j o',uD (oq r (.int (.ofNat j)) o')=some (True,aH.v (.int (.ofNat j)),some o'))→Gd (jr n) aI r (vS .leaf m):=
  fun h h2=>eL 4 m 9 hn (by decide) (by decide) b (fun j o hj b=>r8 ⟨.int (.ofNat j),⟨Int.natCast_nonneg j,Int.ofNat_le.mpr (qM hj)⟩,rfl⟩ b (h2 j o)) h
 refine lt6 hi ?_ ?_ ?_ ?_ ?_ ?_
 iterate 4 (exact A kr fun j o=>kr)
 ·exact r8 (v:=aH.v .nil) ⟨.nil,trivial,rfl⟩ (b.le (qK m))
 ·exact eL 4 m 3 hn (by decide) (by decide) b fun j o hj b=>r8 (v:=aH.v (.gZ (60+.ofNat j))) ⟨.gZ (60+.ofNat j),⟨Int.add_nonneg (by decide) (Int.natCast_nonneg j),Int.ofNat_le.mpr (qy (qu (qL hj) 60) (by decide))⟩,rfl⟩ b
noncomputable def bM:ai:=[("bag",V.loc 0)]
theorem P9(hn:1<n):CU p w K n 7 E4 .test:=fun m o b=>by
 have pI:0<n:=qG hn;refine eL 7 (m+9) 5 pI (by decide) (by decide) b fun i o hi b=> ?_;refine WS hi ?_ ?_ ?_ ?_ ?_
 iterate 2 (exact r9 7 (m+7) hn (by decide) b fun l o ok b=>r8 (v:=aB.v (.leaf l)) ⟨.leaf l,ok,rfl⟩ (b.le (qp m 7)))
 ·exact r9 7 (m+7) hn (by decide) b fun l o ok b=>r8 (v:=aB.v (.jc l)) ⟨.jc l,ok,rfl⟩ (b.le (qp m 7))
 iterate 2
  ·refine eL 7 (m+8) 4 pI (by decide) (by decide) b fun j o hj b=> ?_;refine uC (a:=0) (m:=j) (fun _=>bM) (fun s:AO×List V=>[s.1,.list [] s.2]) (fun q s=>Bg (m+2*q) s.1∧Ls aH.v aH.ok q s.2) (s0:=(o,[])) ⟨b.le (by lia),.mk [] nofun (by show 0+j≤3;lia)⟩ (fun a q s t P kY=> ?_) (fun s t=> ?_) (by lia)
   ·exact r9 7 (m+2*q) hn (by decide) t.1 fun l o ok b=>gO kY (o,s.2++[l.v]) ⟨b,t.2.snoc ok⟩ t.2.lt kr
   ·obtain⟨o,vs⟩:=s;obtain⟨b,t⟩:=t;cases t with
    |mk ls h n=>exact DE [.list [] (ls.map aH.v)] ⟨.iN ls,⟨n,h⟩,rfl⟩ b (fun af=>.tup (.cons (.closed rfl) (.cons (.tup (.cons (.closed rfl) (.cons (.lst (k:=1) (by decide) rfl (fh (gr gf ls))) .nil))) .nil))) trivial kr
theorem Uz(hn:1<n):CU p w K n 7 E5 .pat:=fun m o b=>by
 have pI:0<n:=qG hn;refine eL 7 (m+9) 5 pI (by decide) (by decide) b fun i o hi b=> ?_;refine WS hi ?_ ?_ ?_ ?_ ?_
 ·induction b using Bg.casesOn with
  | @mk G c sd b g c0 c1 s0 s1=>
   have hl:(Str.ofString (toString c)).length≤7:=toString_length_le c0 (by decide) (by lia);have hn:("n":Str).length=1:=by decide+kernel
   have hl2:((("n":Str)++Str.ofString (toString c))).length≤8:=by rw[strLen_append];exact qu ‹_› _
   have hb:c.natAbs.log2<1920:=by
    have:=Nat.log2_lt (n:=c.natAbs) (k:=30);cases Nat.eq_zero_or_pos c.natAbs with
    |inl z=>rw[z];decide
    |inr z=>have:=(Nat.log2_lt (n:=c.natAbs) (k:=30) (by exact Nat.ne_of_gt ‹_›)).mpr (by lia);exact wg ‹_›
   exact x9 (v:=cK.v (.bind (("n":Str)++Str.ofString (toString c)))) ⟨.bind _,⟨by lia,CS (lH "n") (lH _)⟩,rfl⟩ (.mk (b:=b) g c0 (by lia) s0 s1) (fun _ _ _=>.closed rfl) (p:=c.natAbs.log2<1920∧((("n":Str)++Str.ofString (toString c))).length≤sizeLine∧True) ⟨hb,by rw[sizeLine_eq];lia,trivial⟩ kr
 iterate 2 (exact r9 7 (m+7) hn (by decide) b fun l o ok b=>r8 (v:=cK.v (.lit l)) ⟨.lit l,ok,rfl⟩ (b.le (qp m 7)))
 iterate 2
  ·refine eL 7 (m+8) 3 pI (by decide) (by decide) b fun j o hj b=> ?_;refine uC (a:=0) (m:=1+j) (fun _=>bM) (fun s:AO×List V=>[s.1,.list [] s.2]) (fun q s=>Bg (m+2*q) s.1∧Ls (fun l=>V.tup [.str "lit",aH.v l]) aH.ok q s.2) (s0:=(o,[])) ⟨b.le (by lia),.mk [] nofun (by show 0+(1+j)≤3;lia)⟩ (fun a q s t P kY=> ?_) (fun s t=> ?_) (by lia)
   ·exact r9 7 (m+2*q) hn (by decide) t.1 fun l o ok b=>gO kY (o,s.2++[.tup [.str "lit",l.v]]) ⟨b,t.2.snoc (f:=fun l=>V.tup [.str "lit",aH.v l]) ok⟩ t.2.lt kr
   ·obtain⟨o,vs⟩:=s;obtain⟨b,t⟩:=t;cases t with
    |mk ls h n=>exact DE [.list [] (ls.map fun l=>V.tup [.str "lit",aH.v l])] ⟨.alt ls,⟨n,h⟩,rfl⟩ b (fun af=>.tup (.cons (.closed rfl) (.cons (.lst (k:=1) (by decide) rfl (fh (gr (fun l=>lU rfl (gf l)) ls))) .nil))) trivial kr
end
noncomputable def M0(d:Nat):ai:=[("bag",V.loc 0),("deep",V.int (.ofNat (d+1))),("found",V.loc 1)]
noncomputable def wZ{d:Nat}(ws:List (List aB×Tree d)):Nat→List V:=List.rec (fun _=>[]) (fun w _ ih k=>.tup [.loc k,Tree.v d w.2]::ih (Nat.succ k)) ws
noncomputable def DF{d:Nat}(ws:List (List aB×Tree d)):St:=List.rec [] (fun w _ ih=>.list [] (w.1.map aB.v)::ih) ws
theorem Qa{st:St}{ws:List (List aB×Tree d)}:∀k,1≤k→(∀i o,(DF ws)[i]? =some o→st[k+i]? =some o)→yQ σ 1 st true (wZ ws k) (ws.map ve):=by
 induction ws with
 |nil=>exact fun _ _ _=>.nil
 |cons w ws ih=>exact fun k hk h=>.cons (.tup (.cons (.lst hk (h 0 _ rfl) (fh (gr mF w.1))) (.cons (.closed (fN d w.2)) .nil))) (ih (Nat.succ k) (qP hk) fun i o e=>Nat.succ_add k i▸h (i+1) o e)
section
variable{K:Frag}
theorem HV(d:Nat):(Int.ofNat (d+1)-1:Int)=.ofNat d:=Int.add_sub_cancel (d:Int) 1
theorem jN{α:Type}{Q:α→Prop}{r:aA α}{o:AO}(D d k:Nat){x:Int}{m:Nat}(hx:x=.ofNat d)(h2:d≤2)(hn:3*d+3<n)(hD:10*d+10≤D)(b:Bg m o)(hm:k+dv d≤m)(hk:∀(t:Tree d) o',Tree.ok d t→Bg k o'→Gd (jr n) aI (oq r (Tree.v d t) o') Q)(h:yS r=some (True,D,1134,[.loc 0,.int x],some o):=by kernel_rfl):Gd (jr n) aI r Q:=
 sW (.value d) D k hn h2 hD b hm ((by rintro v o' ⟨t,ok,e⟩ b;exact e▸hk t o' ok b)) (by subst hx;exact h)
theorem Fp{α:Type}{Q:α→Prop}{r:aA α}{o:AO}(D k:Nat)(hn:2<n)(hD:8≤D)(b:Bg (k+10) o)(hk:∀(t:aB) o',t.ok→Bg k o'→Gd (jr n) aI (oq r t.v o') Q)(h:yS r=some (True,D,1153,[.loc 0],some o):=by kernel_rfl):Gd (jr n) aI r Q:=
 sW .test D k hn trivial hD b (qf _) ((by rintro v o' ⟨t,ok,e⟩ b;exact e▸hk t o' ok b)) h
theorem B5{α:Type}{Q:α→Prop}{r:aA α}{o:AO}(D k:Nat)(hn:2<n)(hD:8≤D)(b:Bg (k+10) o)(hk:∀(t:cK) o',t.ok→Bg k o'→Gd (jr n) aI (oq r t.v o') Q)(h:yS r=some (True,D,1163,[.loc 0],some o):=by kernel_rfl):Gd (jr n) aI r Q:=
 sW .pat D k hn trivial hD b (qf _) ((by rintro v o' ⟨t,ok,e⟩ b;exact e▸hk t o' ok b)) h
inductive Ts (q:Nat):List V→Prop
 |mk (ts:List aB) (h:∀t∈ts,t.ok) (n:1≤ts.length+q∧ts.length+q≤2):Ts q (ts.map aB.v)
theorem Ts.snoc{vs:List V}{a:aB}(h:Ts (q+1) vs)(ha:a.ok):Ts q (vs++[a.v]):=by
 induction h using Ts.casesOn with
 |mk ls h n=>
  have e:(ls++[a]).map aB.v=ls.map aB.v++[a.v]:=List.map_append;rw[←e];exact .mk _ (fun l hl=>(List.mem_append.mp hl).elim (h l) fun q=>List.mem_singleton.mp q▸ha) (by rw[List.length_append];show 1≤ls.length+1+q∧ls.length+1+q≤2;lia)
theorem Ts.lt(h:Ts q vs):vs.length<500∧True:=by
 induction h using Ts.casesOn with
 |mk ls h n=>exact⟨by rw[List.length_map];lia,trivial⟩
theorem M1{ts:List aB}{t:Tree d}(h:gQ ws)(h1:1≤ts.length∧ts.length≤2)(h2:∀t∈ts,t.ok)(h3:Tree.ok d t):gQ (ws++[(ts,t)]):=
 fun w hw=>(List.mem_append.mp hw).elim (h w) fun q=>List.mem_singleton.mp q▸⟨⟨h1,h2⟩,h3⟩
noncomputable def whS(s:AO×List (List aB×Tree d)):St:=s.1::.list [] (wZ s.2 2)::DF s.2
theorem M3(hd:d≤1)(hn:3*d+3<n):CU p w K n (10*d+12) AA (.lS d):=fun m WT b=>by
 have ou:10*d+10≤10*d+12:=qp _ 2;have h8:8≤10*d+12:=qg 8 (10*d+4);have AH:2<n:=by exact Ln ‹_›
 have pI:0<n:=by exact Ln ‹_›
 have CV:d≤2:=by exact qP ‹_›
 refine eL (10*d+12) (m+(dv d*3+69)) 3 pI (by decide) (qg 3 _) b fun i o hi b=> ?_
 let r0:=oq (MZ p w K n (10*d+12) AA (iz.args (.lS d)) WT) (.int (.ofNat i)) o
 show Gd _ _ r0 _;refine uC (a:=0) (m:=1+i) (fun _=>M0 d) whS (fun q (s:AO×List (List aB×Tree d))=>Bg (m+(dv d+21)*q) s.1∧s.2.length+q≤3∧gQ s.2) (s0:=(o,[])) ⟨b.le ?_,by show 0+(1+i)≤3;lia,fun _ h=>nomatch h⟩ (fun a q s t P kY=> ?_) (fun s t=> ?_) (by lia)
 ·refine qu ?_ m;exact WR hi (by lia) (by lia) (by lia)
 ·obtain⟨o,ws⟩:=s;obtain⟨b,hl,M4⟩:=t;have hl:ws.length+1+q≤3:=by rw[Nat.add_assoc,Nat.add_comm 1];exact hl
  replace b:Bg (m+(dv d+21)*q+dv d+21) o:=b.le (qA (congrArg (· +21) (Nat.add_assoc m ((dv d+21)*q) (dv d))));have sn:∀{o':AO} {ts:List aB} {t:Tree d},Bg (m+(dv d+21)*q) o'→(1≤ts.length+0∧ts.length+0≤2)→(∀t∈ts,t.ok)→Tree.ok d t→Bg (m+(dv d+21)*q) (o',ws++[(ts,t)]).1∧(o',ws++[(ts,t)]).2.length+q≤3∧gQ (o',ws++[(ts,t)]).2:=
   fun b h1 h2 h3=>⟨b,by rw[List.length_append];exact hl,M1 M4 h1 h2 h3⟩
  generalize m+(dv d+21)*q=k at*
  let W:=ws
  let r1:=i9 r0 (.int (.ofNat a)) (M0 d) (whS (o,W))
  show Gd _ _ r1 _;rcases ws with _|⟨w0,_|⟨w1,_|⟨w2,ws⟩⟩⟩
  rotate_right
  ·exact absurd hl (by simp only[List.length_cons];lia)
  all_goals
   refine eL (10*d+12) (k+dv d+20) 2 pI (by decide) (qg 3 _) b fun j o hj b=> ?_;refine uC (a:=0) (m:=1+j) (fun _=>bM) (fun(s:AO×List V)=>s.1::.list [] (wZ W 2)::(DF W++[.list [] s.2])) (fun q s=>Bg (k+dv d+10*q) s.1∧Ts q s.2) (s0:=(o,[])) ⟨b.le (by lia),.mk [] (fun _ h=>nomatch h) (by show 1≤0+(1+j)∧0+(1+j)≤2;lia)⟩ (fun a q s t P kY=> ?_) (fun s t=> ?_) (by lia)
   ·exact Fp (10*d+12) (k+dv d+10*q) AH h8 t.1 fun t1 o ok b=>gO kY (o,s.2++[t1.v]) ⟨b,t.2.snoc ok⟩ t.2.lt kr
   ·obtain⟨o,vs⟩:=s;obtain⟨b,t⟩:=t;cases t with
    |mk ts h1 h2=>exact jN (10*d+12) d k (HV d) CV hn ou b (qf _) fun tr o ok b=>gO kY (o,W++[(ts,tr)]) (sn b h2 h1 ok) (p:=(wZ W 2).length<500∧True) ⟨Nat.lt_of_sub_pos (Nat.succ_pos _),trivial⟩ kr
 ·obtain⟨o,ws⟩:=s;obtain⟨b,hl,M4⟩:=t;exact DE (.list [] (wZ ws 2)::DF ws) ⟨ws,⟨hl,M4⟩,rfl⟩ b (fun af=>.lst (k:=1) (by decide) rfl (Qa 2 (by decide) fun i o e=>(Nat.add_comm 2 i▸e))) trivial kr
end
theorem GV(as:List (cK×Option Int×Tree d)):bB (as.map tX)=true:=gr (fun _=>oQ (lV _) (Fo _) (fN _ _)) as
section
variable{K:Frag}
theorem Qc(hd:d≤1)(hn:3*d+3<n):CU p w K n (10*d+12) AB (.arms d):=fun m WT b=>by
 have ou:10*d+10≤10*d+12:=qp _ 2;have h8:8≤10*d+12:=qg 8 (10*d+4);have AH:2<n:=by exact Ln ‹_›
 have pI:0<n:=by exact Ln ‹_›
 have CV:d≤2:=by exact qP ‹_›
 refine eL (10*d+12) (m+(dv d*3+69)) 3 pI (by decide) (qg 3 _) b fun i o hi b=> ?_
 let r0:=oq (MZ p w K n (10*d+12) AB (iz.args (.arms d)) WT) (.int (.ofNat i)) o
 show Gd _ _ r0 _;refine uC (a:=0) (m:=1+i) (fun _=>M0 d) (fun s:AO×List V=>[s.1,.list [] s.2]) (fun q s=>Bg (m+(dv d+21)*q) s.1∧Ls tX (fun a:cK×Option Int×Tree d=>a.1.ok∧oN a.2.1∧Tree.ok d a.2.2) q s.2) (s0:=(o,[])) ⟨b.le ?_,.mk [] (fun _ h=>nomatch h) (by show 0+(1+i)≤3;lia)⟩ (fun a q s t P kY=> ?_) (fun s t=> ?_) (by lia)
 ·refine qu ?_ m;exact WR hi (by lia) (by lia) (by lia)
 ·obtain⟨o,vs⟩:=s;obtain⟨b,t⟩:=t;replace b:Bg (m+(dv d+21)*q+dv d+21) o:=b.le (qA (congrArg (· +21) (Nat.add_assoc m ((dv d+21)*q) (dv d))));have fin:∀{r:aA cz} {o':AO} {a:cK×Option Int×Tree d},Bg (m+(dv d+21)*q) o'→a.1.ok→oN a.2.1→Tree.ok d a.2.2→vd (lF r0) r=some (vs.length<500∧True,.next,M0 d,[o',.list [] (vs++[tX a])])→Gd (jr n) aI r P:=
   fun b h1 h2 h3 h=>gO kY (_,vs++[tX _]) ⟨b,t.snoc (f:=tX) ⟨h1,h2,h3⟩⟩ t.lt h
  generalize m+(dv d+21)*q=k at*
  let r1:=i9 r0 (.int (.ofNat a)) (M0 d) [o,.list [] vs]
  show Gd _ _ r1 _;refine B5 (10*d+12) (k+dv d+11) AH h8 b fun pt o1 okp b=> ?_;refine eL (10*d+12) (k+dv d+10) 2 pI (by decide) (qg 3 _) b fun j o hj b=> ?_;refine WQ hj ?_ ?_
  ·exact jN (10*d+12) d k (HV d) CV hn ou b (qp _ 10) fun tr o gu b=>fin (a:=(pt,none,tr)) b okp trivial gu kr
  ·refine eL (10*d+12) (k+dv d+9) 6 pI (by decide) (qg 3 _) b fun g o hg b=> ?_;exact jN (10*d+12) d k (HV d) CV hn ou b (qp _ 9) fun tr o gu b=>fin (a:=(pt,some (.ofNat g),tr)) b okp ⟨Int.natCast_nonneg g,Int.ofNat_le.mpr (qM hg)⟩ gu kr
 ·obtain⟨o,vs⟩:=s;obtain⟨b,t⟩:=t;cases t with
  |mk as h n=>exact DE [.list [] (as.map tX)] ⟨as,⟨n,h⟩,rfl⟩ b (fun af=>.lst (k:=1) (by decide) rfl (fh (GV as))) trivial kr
end
noncomputable def lfV(c:Int)(i:Nat):V:=match i with
 |0=>.tup [.str "int",.num (c.fmod 7)]
 |1=>.tup [.str "int",.num (c.fmod 3)]
 |2=>.tup [.str "nil"]
 |_=>.tup [.str "toss",.num (70+c.fmod 3)]
noncomputable def lfL(c:Int)(i:Nat):aH:=match i with
 |0=>.int (c.fmod 7)
 |1=>.int (c.fmod 3)
 |2=>.nil
 |_=>.gZ (70+c.fmod 3)
theorem Su{c m:Int}(h:0<m):0≤c.fmod m∧c.fmod m<m:=⟨qO _ h,Int.fmod_lt_of_pos _ h⟩
theorem Fq{st:St}{x:Str}{i:Int}:Fz σ n st false (.tup [.str x,.num i]) (.tup [.str x,.int i]):=.tup (.cons (.closed rfl) (.cons (.num i) .nil))
section
variable{K:Frag}
theorem w4(hx:∀l:aH,l.ok→x.is l.v)(b:Bg k o){i:Nat}(hi:i<4){r:Nat→AO→aA (V×St)}(h:∀G c sd b,((List.range 4).map fun i=>uD (r i (kH G c sd b)))=(List.range 4).map fun i=>some (True,lfV c i,some (kH G c sd b))):Gd (jr n) aI (r i o) (vS x k):=by
 induction b using Bg.casesOn with
 | @mk G c sd b g c0 c1 s0 s1=>
  have a7:=Su (c:=c) (m:=7) (by decide);have a3:=Su (c:=c) (m:=3) (by decide);have ok:(lfL c i).ok:=So hi (by show 0≤c.fmod 7∧c.fmod 7≤8;omega) (by show 0≤c.fmod 3∧c.fmod 3≤8;omega) trivial (by show 0≤70+c.fmod 3∧70+c.fmod 3≤100;omega);exact x9 (hx _ ok) (.mk g c0 c1 s0 s1) (fun af st _=>So (P:=fun i=>Fz af 1 st false (lfV c i) (lfL c i).v) hi Fq Fq (.closed rfl) Fq) trivial (List.map_inj_left.mp (h G c sd b) i (List.mem_range.mpr hi))
theorem JX(hn:0<n):CU p w K n 9 rV (.value 0):=fun m o b=>by
 induction b using Bg.casesOn with
 | @mk G c sd b g c0 c1 s0 s1=>
  have b':Bg (m+1) (kH G c sd (b-1)):=.mk g c0 c1 s0 s1;exact eL 9 m 4 hn (by decide) (by decide) b' fun i o hi b=>w4 (x:=.value 0) (fun l ok=>⟨l,ok,rfl⟩) b hi (r:=fun i o=>oq (MZ p w K n 9 rV (iz.args (.value 0)) _) (.int (.ofNat i)) o) fun _ _ _ _=>kr
theorem JY(hd:d≤1)(hn:3*d+5<n):CU p w K n (10*d+19) rV (.value (d+1)):=fun m o b=>by
 have pI:0<n:=qI hn;have WU:3*d+3<n:=Nat.lt_of_le_of_lt (qp _ 2) hn;have WV:3*d+4<n:=qG hn;have CV:d≤2:=qP hd;have h19:10*d+10≤10*d+19:=qp _ 9;have h3:3≤10*d+19:=qg 3 (10*d+16);have yT:10*d+13≤10*d+19:=qp _ 6;have lf:∀l:aH,l.ok→(iz.value (d+1)).is l.v:=fun l ok=>⟨pH d (.leaf l),ok,rfl⟩;have fin:∀{r:aA (V×St)} {o:AO} {k:Nat} (t:Tr (Tree d)),Bg k o→m≤k→Tr.ok (Tree.ok d) t→uD r=some (True,Tree.v (d+1) (pH d t),some o)→Gd (jr n) aI r (vS (.value (d+1)) m):=
  fun t b hk ok h=>r8 ⟨pH d t,ok,rfl⟩ (b.le hk) h
 induction b using Bg.casesOn with
 | @mk G c sd b g c0 c1 s0 s1=>
  have b':Bg (m+(dv d*5+100)) (kH G c sd (b-1)):=.mk g c0 c1 s0 s1;generalize he:dv d=e at*;have JZ:∀{r:aA (V×St)} {o:AO} (t:Option (Tree d)→Tr (Tree d)),Bg (m+e+28) o→(∀o,oX (Tree.ok d) o→Tr.ok (Tree.ok d) (t o))→yS r=some (True,10*d+18,1127,[.loc 0,.int (.ofNat 2)],some o)→
    (∀o,uD (oq r (.int (.ofNat 0)) o)=some (True,Tree.v (d+1) (pH d (t none)),some o)∧yS (oq r (.int (.ofNat 1)) o)=some (True,10*d+18,1134,[.loc 0,.int (Int.ofNat (d+1)-1)],some o)∧
     ∀s o',uD (oq (oq r (.int (.ofNat 1)) o) (Tree.v d s) o')=some (True,Tree.v (d+1) (pH d (t (some s))),some o'))→Gd (jr n) aI r (vS (.value (d+1)) m):=
   fun t b ok h h2=>eL (10*d+18) (m+e+27) 2 pI (by decide) (qg 3 _) b (fun i o hi b=>WQ hi (fin (t none) b (by lia) (ok none trivial) (h2 o).1)
    (jN (10*d+18) d m (HV d) CV WU (qp _ 8) b (by rw[he];exact qp _ 27) (fun s o' jH b=>fin (t (some s)) b (qf m) (ok (some s) jH) ((h2 o).2.2 s o')) (h2 o).2.1)) h
  let r:=MZ p w K n (10*d+19) rV (iz.args (.value (d+1))) (kH G c sd b)
  show Gd _ _ r _;refine HN (b:=decide (0<b-1)) (fun cc=> ?_) trivial kr;induction cc using qd with
  |false=>
   exact eL (10*d+19) (m+(e*5+99)) 4 pI (by decide) h3 b' fun i o hi b=>w4 lf (b.le (qp m _)) hi (r:=fun i o=>oq (ah r false) (.int (.ofNat i)) o) fun _ _ _ _=>kr
  |true=>
   let r0:=ah r true
   show Gd _ _ r0 _;refine eL (10*d+19) (m+(e*5+99)) 8 pI (by decide) h3 b' fun i o hi b=> ?_;have L:∀i,i<4→Gd (jr n) aI (oq r0 (.int (.ofNat (i+4))) o) (vS (.value (d+1)) m):=fun i hi=>w4 lf (b.le (qp m _)) hi (r:=fun i o=>oq r0 (.int (.ofNat (i+4))) o) fun _ _ _ _=>kr;have V1:∀{r:aA (V×St)},yS r=some (True,10*d+19,1134,[.loc 0,.int (Int.ofNat (d+1)-1)],some o)→(∀(t:Tree d) o',Tree.ok d t→Bg (m+e*4+99) o'→Gd (jr n) aI (oq r (Tree.v d t) o') (vS (.value (d+1)) m))→Gd (jr n) aI r (vS (.value (d+1)) m):=
    fun h hk=>jN (10*d+19) d (m+e*4+99) (HV d) CV WU h19 b (by lia) hk h
   refine MX hi ?_ ?_ ?_ ?_ (L 0 (by decide)) (L 1 (by decide)) (L 2 (by decide)) (L 3 (by decide))
   ·refine eL (10*d+19) (m+(e*5+98)) 4 pI (by decide) h3 b fun j o hj b=> ?_;induction j using qk with
    |zero=>exact sW (.lS d) (10*d+19) (m+e+28) WV hd yT b (by show m+e+28+(dv d*3+70)≤_;lia) fun v o ⟨ws,ok,ev⟩ b=>by subst ev;exact JZ (fun o=>.jT none ws o) b (fun o h=>⟨trivial,ok,h⟩) kr fun o=>⟨kr,kr,fun s o'=>kr⟩
    |succ j=>
     exact jN (10*d+19) d (m+e*4+98) (HV d) CV WU h19 b (by lia) fun s o jH b=>sW (.lS d) (10*d+19) (m+e+28) WV hd yT b (by show m+e+28+(dv d*3+70)≤_;lia) fun v o ⟨ws,ok,ev⟩ b=>by subst ev;exact JZ (fun o=>.jT (some s) ws o) b (fun o h=>⟨jH,ok,h⟩) kr fun o=>⟨kr,kr,fun s o'=>kr⟩
   ·exact V1 kr fun s o jH b=>sW (.arms d) (10*d+19) (m+e+28) WV hd yT b (by show m+e+28+(dv d*3+70)≤_;lia) fun v o ⟨as,ok,ev⟩ b=>by subst ev;exact JZ (fun o=>.jD s as o) b (fun o h=>⟨jH,ok,h⟩) kr fun o=>⟨kr,kr,fun s o'=>kr⟩
   ·exact V1 kr fun s o jH b=>B5 (10*d+19) (m+e*4+89) (by exact Ln ‹_›) (qg 8 _) b fun q o HW b=>fin (.j9 s q) b (by lia) ⟨jH,HW⟩ kr
   ·exact V1 kr fun s o jH b=>B5 (10*d+19) (m+e*4+89) (by lia) (qg 8 _) b fun q o HW b=>fin (.jE s q) b (by lia) ⟨jH,HW⟩ kr
end
section
variable{K:Frag}{S:Spec}
theorem iJ.to(b:iJ (kP p w S pre asks K) I):iJ (kP p w S' J0 Zp K) I:=⟨b.glob,b.lim,b.fns,b.K,b.tabs,b.tS⟩
theorem au.to{σ:Nat→Addr}{st:St}{s:Shared}(h:au (kP p w S pre asks K) k A I σ st s)(hj:j≤k):au (kP p w S' J0 Zp K) j A I σ st s:=⟨h.fit.le hj,h.base.to,h.rel⟩
end
theorem oR(h:∀(d:Nat) (a:Addr) (A:Around) (I:IM) (σ:Nat→Addr) (st:St) (s:Shared) (E:dS) (args:List V) (ys:LV) (Q:dS) (W:V→St→Prop),
 nL a cx.tab.asks=true→au cx d A I σ st s→aG I cx.P σ st.length args ys→cx.S d a args st W→(∀v st',W v st'→EV cx I σ st s Q (v,st'))→wpAny cx.M A (call (.ref a) ys) Q E s):Kept cx:=
 fun ha H r hp hk=>h _ _ _ _ _ _ _ _ _ _ _ _ ha H r hp hk
theorem UA{K:Frag}{n:Nat}(x:iz)(hr:x.rank≤n)(hc:x.WO):∃(k:Nat) (fd:FuncData),k+1≤x.room∧oh x.fn (HS p w K n).tab.fns=some (fd,[])∧CU p w K n k fd x:=by
 induction x using iz.casesOn with
 |take m=>exact⟨2,E2,qf 3,kr,fun k o b=>P7 hc b⟩
 |leaf=>exact⟨4,E3,qf 5,kr,P8 hr⟩
 |test=>exact⟨7,E4,qf 8,kr,P9 hr⟩
 |pat=>exact⟨7,E5,qf 8,kr,Uz hr⟩
 |value d=>
  induction d using qk with
  |zero=>exact⟨9,rV,qf 10,kr,JX (Nat.lt_of_succ_le (qy (by decide) hr))⟩
  |succ d=>exact⟨10*d+19,rV,qf _,kr,JY (Nat.le_of_succ_le_succ hc) hr⟩
 |lS d=>exact⟨10*d+12,AA,qf _,kr,M3 hc hr⟩
 |arms d=>exact⟨10*d+12,AB,qf _,kr,Qc hc hr⟩
theorem Zq(p:Program)(w:World)(K:Frag)(n:Nat):Kept (HS p w K n):=by
 induction n with
 |zero=>
  refine oR fun d a A I σ st s E args ys Q W ha H r hp hk=> ?_;obtain⟨x,l,o,k,hr,_⟩:=hp;exact absurd hr (qr _)
 |succ n ih=>
  refine oR fun d a A I σ st s E args ys Q W ha H r hp hk=> ?_;obtain⟨x,l,o,k,hr,hc,rfl,rfl,hd,e,b,hw⟩:=hp;obtain⟨j,fd,hj,hf,g⟩:=UA (p:=p) (w:=w) (K:=K) x (qM hr) hc;rw[gI]at e;refine Ux (cx:=HS p w K n) (fd:=(fd,[])) (W:=fun v o'=>x.is v∧Bg k o') (eY ih 60) hf (H.to (qy hj hd)) e b.closed (Uy x) r (Good.mono (fun q hq af=> ?_) (g k o b).out) fun v o' w=>hk v _ (hw v o' w.1 w.2);obtain⟨v,o',f1,f2,i,b⟩:=hq af;exact⟨v,o',f1,f2,iz.closed i,b.closed,i,b⟩
section
variable{P:Params}{st:St}{X:Addr→Prop}
theorem Zr(r:cF P I σ st h):cF P I (fun _=>0) [] h:=⟨r.sub,fun k o e=>by trivial,fun j k hj=>by simp at hj,fun k hk=>by simp at hk⟩
theorem UB(r:cF P I σ st h)(x:aM P X I (fun _=>0) 0 h I' af [] h')(hX:∀k,k<st.length→¬X (σ k)):aM P X I σ st.length h I' σ st h':=by
 have apart:∀k,k<st.length→I' (σ k)=none:=fun k hk=>by
  induction q:I' (σ k)using qe with
  |none=>rfl
  |some ob=>
   rcases x.fresh _ _ q with z|z
   ·rw[r.out k hk]at z;exact nn z
   ·obtain⟨o1,g⟩:=r.live hk;rw[z]at g;exact nn g
 refine⟨⟨x.le.i,fun _ _=>rfl,qf _⟩,x.fresh,fun k a b=>absurd a (by exact Nat.not_le_of_lt ‹_›),⟨x.rel.sub,fun k q hq=> ?_,r.inj,apart⟩,fun b ob hb hx hk=>x.keep b ob hb hx fun k nI=>absurd nI (qr _),x.alive⟩;have hk:k<st.length:=(List.getElem?_eq_some_iff.mp hq).1;obtain⟨ob,g,gC⟩:=r.cells k q hq;exact⟨ob,x.keep _ ob g (hX k hk) fun j hj=>absurd hj (qr _),gC.mono ⟨x.le.i,fun _ _=>rfl,qf _⟩⟩
end
theorem HX(Sd:aU cx ev){A:Around}{I:IM}{σ:Nat→Addr}{st:St}{s:Shared}{E:dS}{a:Addr}{fd:FuncData×List V}{as:List V}{ys:LV}{Q:dS}{W:V→Prop}
  (hf:oh a cx.tab.fns=some fd)(H:au cx (k+1) A I σ st s)(ca:bB as=true)(r:aG I cx.P σ st.length as ys)
  (g:Good cx.S cx.pre (fV ev k fd.1 fd.2 [] as []) fun p=>∀af,(∀k,k<p.2.length→af k≠sysModules)→∃v',Fz af 0 p.2 false p.1 v'∧aJ v'=true∧W v')
  (hW:∀v',W v'→EV cx I σ st s Q (v',st)):wpAny cx.M A (call (.ref a) ys) Q E s:=by
 have H1:au cx (k+1) A I (fun _=>0) [] s:=⟨H.fit,H.base,Zr H.rel⟩;refine tW Sd (W:=fun v' iI=>iI=[]∧aJ v'=true∧W v') hf H1 (mz r ca) (Good.mono (fun p gp af hs=> ?_) g) fun v' iI w=> ?_
 ·obtain⟨v',f1,c1,w⟩:=gp af hs;exact⟨v',[],f1,⟨rfl,qm _,fun k o o' hk=>absurd hk (qr _)⟩,rfl,c1,w⟩
 ·obtain⟨rfl,c1,w⟩:=w;intro I' af y s' x sm ry;exact hW v' w I' σ y s' (UB H.rel x (fun _ _ q=>q)) sm (ki ry c1).up
noncomputable def aj(k:Str)(qY:V):V:=.inst 687 [("kind",.str k),("parts",qY),("line",.int 0),("own",.none)]
noncomputable def aH.node:aH→V:=fun l=>match l with
 |.int i=>aj "int" (.tup [.int i])
 |.nil=>aj "nil" (.tup [])
 |.gZ i=>aj "ivar" (.tup [.int i])
noncomputable def je(o:Option Int):V:=match o with
 |none=>.none
 |some n=>aj "gvar" (.tup [.int n])
noncomputable def gR(ls:List aH):V:=aj "array" (.tup [.lst (ls.map aH.node)])
noncomputable def aB.node:aB→V:=fun t=>match t with
 |.leaf l=>l.node
 |.jc l=>aj "splat" (.tup [l.node])
 |.iN ls=>aj "splat" (.tup [gR ls])
noncomputable def mu(l:aH):V:=aj "p_value" (.tup [l.node])
noncomputable def cK.node:cK→V:=fun p=>match p with
 |.bind n=>aj "p_bind" (.tup [.str n])
 |.lit l=>mu l
 |.alt ls=>aj "p_alt" (.tup [.lst (ls.map mu)])
noncomputable def kI(b:V):V:=aj "seq" (.tup [.lst [b]])
noncomputable def bI{α:Type}(f:α→V)(w:List aB×α):V:=.tup [.lst (w.1.map aB.node),kI (f w.2)]
noncomputable def dB{α:Type}(f:α→V)(a:cK×Option Int×α):V:=.tup [a.1.node,je a.2.1,f a.2.2]
noncomputable def Tr.node{α:Type}(f:α→V):Tr α→V:=fun t=>match t with
 |.leaf l=>l.node
 |.jT s ws o=>aj "case" (.tup [m7 f s,.lst (ws.map (bI f)),m7 f o])
 |.jD s arms o=>aj "casein" (.tup [f s,.lst (arms.map (dB f)),m7 f o])
 |.j9 s p=>aj "matchp" (.tup [f s,p.node])
 |.jE s p=>aj "matchq" (.tup [f s,p.node])
noncomputable def Tree.node:(n:Nat)→Tree n→V
 |0=>aH.node
 |n+1=>Tr.node (Tree.node n)
theorem J1(k:Str)(v:V):aJ (aj k v)=true:=rfl
theorem dG(l:aH):aJ l.node=true:=by induction l using aH.casesOn<;>rfl
theorem se(t:aB):aJ t.node=true:=by
 induction t using aB.casesOn with
 |leaf l=>exact dG l
 |_=>rfl
theorem o6(t:cK):aJ t.node=true:=by induction t using cK.casesOn<;>rfl
theorem pU(t:Option Int):aJ (je t)=true:=by induction t using qe<;>rfl
theorem J2{α:Type}{f:α→V}(t:Tr α):aJ (t.node f)=true:=by
 induction t using Tr.casesOn with
 |leaf l=>exact dG l
 |_=>rfl
theorem iO(n:Nat)(t:Tree n):aJ (Tree.node n t)=true:=by
 induction n using qk with
 |zero=>exact dG t
 |succ n=>exact J2 t
theorem tY(o:Option (Tree d)):aJ (m7 (Tree.node d) o)=true:=oZ (iO d) o
theorem GW(a:cK×Option Int×Tree d):aJ (dB (Tree.node d) a)=true:=oQ (o6 _) (pU _) (iO _ _)
inductive gw where
 |none|leaf (l:aH)|guard (i:Int)|list (ls:List aH)|test (t:aB)|pat (p:cK)|tree (d:Nat) (t:Tree d)
noncomputable def gw.v:gw→V:=fun x=>match x with
 |.none=>V.none
 |.leaf l=>l.v
 |.guard i=>wV (some i)
 |.list ls=>.tup [.str "list",.lst (ls.map aH.v)]
 |.test t=>t.v
 |.pat p=>p.v
 |.tree d t=>Tree.v d t
noncomputable def gw.node:gw→V:=fun x=>match x with
 |.none=>V.none
 |.leaf l=>l.node
 |.guard i=>je (some i)
 |.list ls=>gR ls
 |.test t=>t.node
 |.pat p=>p.node
 |.tree d t=>Tree.node d t
noncomputable def cK.rk:cK→Nat:=fun p=>match p with
 |.alt _=>2
 |_=>1
def gw.ok:gw→Prop:=fun x=>match x with
 |.list ls=>ls.length≤3
 |.test t=>t.ok
 |.pat p=>p.ok
 |.tree d t=>Tree.ok d t
 |_=>True
noncomputable def gw.rk:gw→Nat:=fun x=>match x with
 |.list _=>1
 |.test _=>2
 |.pat p=>p.rk
 |.tree d _=>d+3
 |_=>0
theorem gw.closed(x:gw):aJ x.v=true:=by
 induction x using gw.casesOn with
 |leaf l=>exact gf l
 |test t=>exact mF t
 |pat p=>exact lV p
 |tree d t=>exact fN d t
 |_=>rfl
theorem gw.UC(x:gw):aJ x.node=true:=by
 induction x using gw.casesOn with
 |leaf l=>exact dG l
 |test t=>exact se t
 |pat p=>exact o6 p
 |tree d t=>exact iO d t
 |_=>rfl
noncomputable def pW(n:Nat):Spec:=fun d f as st W=>f=1175∧∃x:gw,x.rk<n∧as=[x.v]∧x.rk+5≤d∧x.ok∧W x.node st
noncomputable def Sv(p:Program)(w:World)(K:Frag)(n:Nat):Cx:=kP p w (pW n) aI [1175] K
noncomputable def M5{α:Type}(r:aA α):Option (Prop×Nat×Addr×List V):=(DC (vw r)).map fun x=>(x.1,x.2.1,x.2.2.1,x.2.2.2.1)
noncomputable def M6{α:Type}(r:aA α)(v:V):aA α:=jS r v (mq r)
theorem mU{α:Type}{Q:α→Prop}{n:Nat}{r:aA α}(x:gw)(D:Nat)(hr:x.rk<n)(hD:x.rk+5≤D)(ok:x.ok)(hk:Gd (pW n) aI (M6 r x.node) Q)(h:M5 r=some (True,D,1175,[x.v]):=by kernel_rfl):Gd (pW n) aI r Q:=by
 obtain⟨⟨p,d,f,as,st⟩,e,h⟩:=Option.map_eq_some_iff.mp h;injection h with h1 h;injection h with h2 h;injection h with h3 h;have e:=zE e;obtain⟨c,e',_⟩:=xZ e;have es:mq r=st:=congrArg AF e';exact Fl (fun v st'=>v=x.node∧st'=mq r) ⟨h3,x,hr,h,h2▸hD,ok,rfl,es.symm⟩ (fun v st' e=>e.1▸e.2▸hk) (h1▸trivial) e
def ya(x:gw)(p:V×St):Prop:=∀af,Fz af 0 p.2 false p.1 x.node
noncomputable def vf(k:Str)(qY:V):AO:=.dict [("kind",.str k),("parts",qY),("line",.int 0),("own",.none)]
theorem Ft{σ:Nat→Addr}{st:St}{m:Bool}(e:st[j]? =some (.inst 687 d))(e':st[d]? =some (vf k pv))(h:Fz σ 0 st true pv Sw):Fz σ 0 st m (.loc j) (aj k Sw):=
 .inst (qm _) (qm _) e e' (.cons (.closed rfl) (.cons h (.cons (.closed rfl) (.cons (.closed rfl) .nil))))
theorem J3{σ:Nat→Addr}{st:St}(h:Fz σ n st m a a'):Fz σ n st m (.tup [a]) (.tup [a']):=.tup (.cons h .nil)
theorem Sx{σ:Nat→Addr}{st:St}(h:Fz σ n st m a a')(h2:Fz σ n st m b b'):Fz σ n st m (.tup [a,b]) (.tup [a',b']):=.tup (.cons h (.cons h2 .nil))
theorem Sy{σ:Nat→Addr}{st:St}(h:Fz σ n st m a a')(h2:Fz σ n st m b b')(h3:Fz σ n st m c c'):Fz σ n st m (.tup [a,b,c]) (.tup [a',b',c']):=.tup (.cons h (.cons h2 (.cons h3 .nil)))
section
theorem HY{u:V}{st:St}(fz:∀af,Fz af 0 st false u x.node)(h:vw r=.ok True (u,st)):Gd (pW n) aI r (ya x):=oY (a:=(u,st)) fz trivial h
noncomputable def vwD(j d c:Nat)(r:aA (V×St)):Option (Prop×V×Option AO×Option AO×Option AO):=(zD (vw r)).map fun q=>(q.1,q.2.1,di q.2.2 j,di q.2.2 d,di q.2.2 c)
theorem AI(k:Str)(j d c:Nat)(pv Sw:V)(o:AO)(fz:∀af st,st[c]? =some o→Fz af 0 st true pv Sw)(e:x.node=aj k Sw)(h:vwD j d c r=some (True,.loc j,some (.inst 687 d),some (vf k pv),some o):=by kernel_rfl):Gd (pW n) aI r (ya x):=by
 obtain⟨⟨q,u,st⟩,e1,h⟩:=Option.map_eq_some_iff.mp h;injection h with h1 h;injection h with h2 h;injection h with h3 h;injection h with h4 h5;simp only[gI]at h3 h4 h5;refine oY (fun af=> ?_) (h1▸trivial) (rj e1);rw[e,show u=.loc j from h2];exact Ft h3 h4 (fz af st h5)
theorem mG(k:Str)(j d:Nat)(pv:V)(c:aJ pv=true)(e:x.node=aj k pv)(h:vwD j d d r=some (True,.loc j,some (.inst 687 d),some (vf k pv),some (vf k pv)):=by kernel_rfl):Gd (pW n) aI r (ya x):=AI k j d d pv pv (vf k pv) (fun _ _ _=>.closed c) e h
end
structure Ac {α:Type} (f:α→V) (ok:α→Prop) (L:List V) (b:List α) (vs:List V):Prop where
 e:vs++b.map f=L
 l:L.length≤3
 ok:∀a∈b,ok a
section
variable{α:Type}{f:α→V}{ok:α→Prop}{a:α}{b:List α}
theorem Ac.next(h:Ac f ok L (a::b) vs):Ac f ok L b (vs++[f a]):=⟨(List.append_assoc vs [f a] _).trans h.e,h.l,fun x hx=>h.ok x (qj _ hx)⟩
theorem Ac.lt(h:Ac f ok L b vs):vs.length<500∧True:=⟨by have:=h.l;rw[←h.e,List.length_append]at this;lia,trivial⟩
theorem Ac.fin(h:Ac f ok L [] vs):vs=L:=(List.append_nil vs).symm.trans h.e
theorem Sz(hl:ls.length≤3)(h:∀a∈ls,ok a):Ac f ok (ls.map f) ls []:=⟨rfl,(List.length_map f).symm▸hl,h⟩
end
section
variable{K:Frag}
noncomputable def abb(p:Program)(w:World)(K:Frag)(n k:Nat)(x:gw):aA (V×St):=fV (cX (Sv p w K n) 60) k E6 [] [] [x.v] []
def zF(p:Program)(w:World)(K:Frag)(n k:Nat)(x:gw):Prop:=Gd (pW n) aI (abb p w K n (k+4) x) (ya x)
theorem sX(l:aH):zF p w K n k (.leaf l):=by
 induction l using aH.casesOn with
 |int i=>exact mG "int" 2 1 (.tup [.int i]) rfl rfl
 |nil=>exact mG "nil" 1 0 (.tup []) rfl rfl
 |gZ i=>exact mG "ivar" 2 1 (.tup [.int i]) rfl rfl
theorem M7(hn:0<n)(ls:List aH)(hl:ls.length≤3):zF p w K n (k+1) (.list ls):=by
 refine ig aH.v (fun _=>[]) (fun vs:List V=>[.list [] vs]) (fun b vs=>Ac aH.node (fun _=>True) (ls.map aH.node) b vs) (s0:=[]) (Sz hl fun _ _=>trivial) (fun l b vs t P kY _=> ?_) fun vs t=> ?_
 ·exact mU (.leaf l) (k+5) hn (qg 5 k) trivial (gO kY (vs++[l.node]) t.next t.lt kr)
 ·rw[t.fin];exact AI "array" 2 1 0 (.tup [.loc 0]) (.tup [.lst (ls.map aH.node)]) (.list [] (ls.map aH.node)) (fun _ _ e=>J3 (.lst (qm _) e (fh (gr dG _)))) rfl
theorem M8(hn:1<n)(t:aB)(ok:t.ok):zF p w K n (k+2) (.test t):=by
 induction t using aB.casesOn with
 |leaf l=>exact sX l
 |jc l=>exact mU (.leaf l) (k+6) (qG hn) (qg 5 (k+1)) trivial (mG "splat" 1 0 (.tup [l.node]) (dg (dG l) rfl) rfl)
 |iN ls=>exact mU (.list ls) (k+6) hn (qg 6 k) ok.1 (mG "splat" 1 0 (.tup [gR ls]) rfl rfl)
theorem Qd(hn:0<n)(l:aH):zF p w K n (k+1) (.pat (.lit l)):=
 mU (.leaf l) (k+5) hn (qg 5 k) trivial (mG "p_value" 1 0 (.tup [l.node]) (dg (dG l) rfl) rfl)
theorem Qe(hn:1<n)(ls:List aH)(hl:ls.length≤3∧∀l∈ls,l.ok):zF p w K n (k+2) (.pat (.alt ls)):=by
 refine ig (fun l=>cK.v (.lit l)) (fun _=>[]) (fun vs:List V=>[.list [] vs]) (fun b vs=>Ac mu aH.ok (ls.map mu) b vs) (s0:=[]) (Sz hl.1 hl.2) (fun l b vs t P kY _=> ?_) fun vs t=> ?_
 ·exact mU (.pat (.lit l)) (k+6) hn (qg 6 k) (t.ok l qi) (gO kY (vs++[mu l]) t.next t.lt kr)
 ·rw[t.fin];exact AI "p_alt" 2 1 0 (.tup [.loc 0]) (.tup [.lst (ls.map mu)]) (.list [] (ls.map mu)) (fun _ _ e=>J3 (.lst (qm _) e (fh (gr (fun l=>J1 _ _) _)))) rfl
end
noncomputable def WW{d:Nat}(j:Nat)(w:List aB×Tree d):St:=[.list [] (w.1.map aB.node),.list [] [Tree.node d w.2],vf "seq" (.tup [.loc (j+1)]),.inst 687 (j+2)]
noncomputable def w5{d:Nat}(ws:List (List aB×Tree d)):Nat→List V:=List.rec (fun _=>[]) (fun w _ ih j=>.tup [.loc j,.loc (j+3)]::ih (j+4)) ws
noncomputable def nR{d:Nat}(ws:List (List aB×Tree d)):Nat→St:=List.rec (fun _=>[]) (fun w _ ih j=>WW j w++ih (j+4)) ws
theorem Qf{st:St}{ws:List (List aB×Tree d)}:∀j,(∀i o,(nR ws j)[i]? =some o→st[j+i]? =some o)→yQ σ 0 st true (w5 ws j) (ws.map (bI (Tree.node d))):=by
 induction ws with
 |nil=>exact fun _ _=>.nil
 |cons w ws ih=>
  intro j h;exact .cons (Sx (.lst (qm _) (h 0 _ rfl) (fh (gr se _))) (Ft (k:="seq") (h 3 _ rfl) (h 2 _ rfl) (J3 (.lst (qm _) (h 1 _ rfl) (.cons (.closed (iO _ _)) .nil))))) (ih (j+4) fun i o e=>(Nat.add_assoc j 4 i).symm▸h (4+i) o (Nat.add_comm 4 i▸e))
section
variable{K:Frag}{α:Type}{Q:α→Prop}{r:aA α}
theorem yb(s:Tree d)(hn:d+3<n)(ok:Tree.ok d s)(hk:Gd (pW n) aI (M6 r (Tree.node d s)) Q)(h:M5 r=some (True,d+8,1175,[Tree.v d s]):=by kernel_rfl):Gd (pW n) aI r Q:=mU (.tree d s) (d+8) hn (qf _) ok hk h
theorem J4(o:Option (Tree d))(hn:d+3<n)(ok:oX (Tree.ok d) o)(hk:Gd (pW n) aI (M6 r (m7 (Tree.node d) o)) Q)(h:M5 r=some (True,d+8,1175,[m7 (Tree.v d) o]):=by kernel_rfl):Gd (pW n) aI r Q:=by
 induction o using qe with
 |none=>exact mU .none (d+8) (qI hn) (qg 5 _) trivial hk h
 |some t=>exact yb t hn ok hk h
theorem WX(o:Option Int)(hn:d+3<n)(hk:Gd (pW n) aI (M6 r (je o)) Q)(h:M5 r=some (True,d+8,1175,[wV o]):=by kernel_rfl):Gd (pW n) aI r Q:=by
 induction o using qe with
 |none=>exact mU .none (d+8) (qI hn) (qg 5 _) trivial hk h
 |some t=>exact mU (.guard t) (d+8) (qI hn) (qg 5 _) trivial hk h
theorem J5(q:cK)(hn:d+3<n)(ok:q.ok)(hk:Gd (pW n) aI (M6 r q.node) Q)(h:M5 r=some (True,d+8,1175,[q.v]):=by kernel_rfl):Gd (pW n) aI r Q:=by
 have l:q.rk≤2:=by induction q using cK.casesOn<;>exact qo rfl
 exact mU (.pat q) (d+8) (Nat.lt_of_le_of_lt (qy l (qg 2 (d+1))) hn) (qy (Nat.add_le_add_right l 5) (qg 7 _)) ok hk h
theorem UD{t:Tr (Tree d)}(hn:d+3<n)(ok:Tr.ok (Tree.ok d) t):zF p w K n (d+4) (.tree (d+1) (pH d t)):=by
 induction t using Tr.casesOn with
 |leaf l=>exact sX l
 |j9 s q=>exact yb s hn ok.1 (J5 (d:=d) q hn ok.2 (mG "matchp" 1 0 (.tup [Tree.node d s,q.node]) (lU (iO d s) (o6 q)) rfl))
 |jE s q=>exact yb s hn ok.1 (J5 (d:=d) q hn ok.2 (mG "matchq" 1 0 (.tup [Tree.node d s,q.node]) (lU (iO d s) (o6 q)) rfl))
 |jD s as o=>
  refine ig tX (fun _=>[]) (fun vs:List V=>[.list [] vs]) (fun b vs=>Ac (dB (Tree.node d)) (fun a=>a.1.ok∧oN a.2.1∧Tree.ok d a.2.2) (as.map (dB (Tree.node d))) b vs) (s0:=[]) (Sz ok.2.1.1 ok.2.1.2) (fun l b vs t P kY _=> ?_) fun vs t=> ?_
  ·obtain⟨q,g,b1⟩:=l;obtain⟨o1,_,o3⟩:=t.ok _ qi;exact J5 (d:=d) q hn o1 (WX (d:=d) g hn (yb b1 hn o3 (gO kY (vs++[dB (Tree.node d) (q,g,b1)]) t.next t.lt kr)))
  ·rw[t.fin];exact yb s hn ok.1 (J4 o hn ok.2.2 (AI "casein" 2 1 0 (.tup [Tree.node d s,.loc 0,m7 (Tree.node d) o]) (.tup [Tree.node d s,.lst (as.map (dB (Tree.node d))),m7 (Tree.node d) o]) (.list [] (as.map (dB (Tree.node d))))
    (fun _ _ e=>Sy (.closed (iO d s)) (.lst (qm _) e (fh (gr GW _))) (.closed (tY o))) rfl))
 |jT s ws o=>
  obtain⟨jH,⟨hl,M4⟩,Fv⟩:=ok;refine ig ve (fun _=>[]) (fun a:List (List aB×Tree d)=>.list [] (w5 a 1)::nR a 1) (fun b a=>a++b=ws) (s0:=[]) rfl (fun x b a t P AJ _=> ?_) fun a t=> ?_
  ·obtain⟨⟨h2,gu⟩,eN⟩:=M4 x (t▸List.mem_append_right a qi);have la:a.length+(b.length+1)≤3:=by rw[←t,List.length_append]at hl;exact hl
   have t':(a++[x])++b=ws:=(List.append_assoc a [x] b).trans t
   let A:=a
   rcases a with _|⟨w0,_|⟨w1,_|⟨w2,a⟩⟩⟩
   rotate_right
   ·exact absurd la (by simp only[List.length_cons];lia)
   all_goals
    refine ig aB.v (fun _=>[]) (fun vs:List V=>.list [] (w5 A 1)::(nR A 1++[.list [] vs])) (fun b vs=>Ac aB.node aB.ok (x.1.map aB.node) b vs) (s0:=[]) (Sz (qP h2.2) gu) (fun l b vs t P AH _=> ?_) fun vs t=> ?_
    ·exact mU (.test l) (d+8) (Nat.lt_of_le_of_lt (qg 2 (d+1)) hn) (qg 7 _) (t.ok l qi) (gO AH (vs++[l.node]) t.next t.lt kr)
    ·rw[t.fin];exact yb x.2 hn eN (gO AJ (A++[x]) t' (p:=(w5 A 1).length<500∧True) ⟨Nat.lt_of_sub_pos (Nat.succ_pos _),trivial⟩ kr)
  ·have t:a=ws:=(List.append_nil a).symm.trans t;subst t;refine J4 s hn jH (J4 o hn Fv ?_);have fz:∀(af:Nat→Addr),Fz af 0 (.list [] (w5 a 1)::(nR a 1++[vf "case" (.tup [m7 (Tree.node d) s,.loc 0,m7 (Tree.node d) o]),.inst 687 ((nR a 1).length+1)])) false (.loc ((nR a 1).length+2)) (gw.node (.tree (d+1) (pH d (.jT s a o)))):=fun af=>
    Ft (k:="case") (d:=(nR a 1).length+1) (by show(nR a 1++_)[(nR a 1).length+1]? =_;rw[qx (qp _ 1),Nat.add_sub_cancel_left];rfl) (by show(nR a 1++_)[(nR a 1).length]? =_;rw[qx (qf _),Nat.sub_self];rfl)
     (Sy (.closed (tY s)) (.lst (qm _) rfl (Qf 1 fun i o e=>by rw[Nat.add_comm 1 i];exact(qB (List.getElem?_eq_some_iff.mp e).1).trans e)) (.closed (tY o)))
   rcases a with _|⟨w0,_|⟨w1,_|⟨w2,_|⟨w3,a⟩⟩⟩⟩
   rotate_right
   ·exact absurd hl (by simp only[List.length_cons];simp)
   all_goals exact HY fz kr
end
theorem Qg{K:Frag}{n:Nat}(x:gw)(hr:x.rk≤n)(ok:x.ok):zF p w K n x.rk x:=by
 induction x using gw.casesOn with
 |none=>exact HY (u:=.none) (st:=[]) (fun _=>.closed rfl) kr
 |leaf l=>exact sX l
 |guard i=>exact mG "gvar" 2 1 (.tup [.int i]) rfl rfl
 |list ls=>exact M7 hr ls ok
 |test t=>exact M8 hr t ok
 |pat q=>
  induction q using cK.casesOn with
  |bind x=>exact mG "p_bind" 1 0 (.tup [.str x]) rfl rfl
  |lit l=>exact Qd hr l
  |alt ls=>exact Qe hr ls ok
 |tree d t=>
  induction d using qk with
  |zero=>exact sX t
  |succ d=>exact UD (t:=t) hr ok
theorem Zs(p:Program)(w:World)(K:Frag)(n:Nat):Kept (Sv p w K n):=by
 induction n with
 |zero=>
  refine oR fun d a A I σ st s E args ys Q W ha H r hp hk=> ?_;obtain⟨_,x,hr,_⟩:=hp;exact absurd hr (qr _)
 |succ n ih=>
  refine oR fun d a A I σ st s E args ys Q W ha H r hp hk=> ?_;obtain⟨rfl,x,hr,rfl,hd,ok,hw⟩:=hp;exact HX (cx:=Sv p w K n) (fd:=(E6,[])) (W:=fun v'=>v'=x.node) (eY ih 60) kr (H.to hd) (dg x.closed rfl) r (Good.mono (fun q hq af _=>⟨x.node,hq af,x.UC,rfl⟩) (Qg x (qM hr) ok).out) fun v' hv=>hv▸hk _ _ hw
theorem Qh(Sd:aU cx ev){I:IM}{σ:Nat→Addr}{st:St}{s:Shared}{E:dS}{a:Addr}{fd:FuncData×List V}{as:List V}{ys:LV}{Q:dS}{o:AO}{W:V→AO→Prop}
  (hf:oh a cx.tab.fns=some fd)(H:au cx (k+1) A I σ st s)(e:st[l]? =some o)(c:ku o=true)(ca:bB as=true)(r:aG I cx.P σ st.length (as++[.loc l]) ys)
  (g:Good cx.S cx.pre (fV ev k fd.1 fd.2 [] (as++[.loc 0]) [o]) fun p=>∀af,∃v' o',Fz af 1 p.2 false p.1 v'∧CR af 1 p.2 [o']∧aJ v'=true∧ku o'=true∧W v' o')
  (hW:∀v' o',W v' o'→EV cx I σ st s Q (v',cD st l o')):wpAny cx.M A (call (.ref a) ys) Q E s:=by
 have H1:au cx (k+1) A I (fun _=>σ l) [o] s:=⟨H.fit,H.base,JT H.rel e c⟩;obtain⟨xs,y,rfl,r1,r2⟩:=r.snoc
 ·obtain⟨rfl,hl⟩:=uf r2;have r3:aG I cx.P (fun _=>σ l) [o].length (as++[.loc 0]) (xs++[.ref (σ l)]):=(mz r1 ca).up.append (.cons (aq.loc (σ:=fun _=>σ l) 0 (by show 0<1;decide)) .nil);refine tW Sd (W:=fun v' iI=>∃o',iI=[o']∧aJ v'=true∧ku o'=true∧W v' o') hf H1 r3 (Good.mono (fun p gp af hs=> ?_) g) fun v' iI w=> ?_
  ·obtain⟨v',o',f1,f2,c1,c2,w⟩:=gp af;exact⟨v',[o'],f1,f2,o',rfl,c1,c2,w⟩
  ·obtain⟨o',rfl,c1,c2,w⟩:=w;intro I' af y s' x sm ry;exact hW v' o' w I' σ y s' (HL H.rel e x c2 (fun _ _ q=>q)) sm (ki ry c1).up
theorem bO(x:Val):aJ x.v=true:=by induction x using Val.casesOn<;>kernel_rfl
theorem M9(x:Rz):aJ x.v=true:=by induction x using Rz.casesOn<;>kernel_rfl
theorem lW(x:bu):aJ x.v=true:=by
 induction x using bu.casesOn with
 |val x=>exact lU (jd _) (bO x)
 |raise z=>exact lU (jd _) (M9 z)
theorem GX(x:Mark):aJ x.v=true:=by
 induction x using Mark.casesOn with
 |made i=>kernel_rfl
 |asked a b=>exact oQ (jd _) (bO a) (bO b)
 |guard i=>kernel_rfl
 |bound n b=>exact oQ (jd _) (jd _) (bO b)
theorem fO:bB a=true→bB b=true→bB (a++b)=true:=by
 induction a with
 |nil=>exact fun _ h=>h
 |cons v a ih=>exact fun h h2=>dg (bk h).1 (ih (bk h).2 h2)
theorem tZ:bB (a++b)=true→bB a=true:=by
 induction a with
 |nil=>exact fun _=>rfl
 |cons v a ih=>exact fun h=>dg (bk h).1 (ih (bk h).2)
noncomputable def dK.v:dK→V:=fun x=>match x with
 |.vals xs=>.tup [.str "value",.lst (xs.map Val.v)]
 |.raise z=>.tup [.str "raise",z.v]
noncomputable def ff.v:ff→V:=fun x=>match x with
 |.val b=>.tup [.str "value",.bool b]
 |.raise z=>.tup [.str "raise",z.v]
inductive cR where
 |leaf (l:aH)|asked (a b:Val)|fW (t:aB)|fits (p:cK) (x:Val)|tree (d:Nat) (t:Tree d)|guard (i:Int)
noncomputable def cR.fn:cR→Addr:=fun x=>match x with
 |.leaf _=>1210
 |.asked _ _=>1189
 |.fW _=>1224
 |.fits _ _=>1238
 |.tree _ _=>1210
 |.guard _=>1203
noncomputable def cR.args:cR→List V:=fun x=>match x with
 |.leaf l=>[l.v]
 |.asked a b=>[a.v,b.v]
 |.fW t=>[t.v]
 |.fits p x=>[p.v,x.v]
 |.tree d t=>[Tree.v d t]
 |.guard i=>[.int i]
noncomputable def cR.marks:cR→List Mark:=fun x=>match x with
 |.leaf l=>l.rd.1
 |.asked a b=>[.asked a b]
 |.fW t=>t.rd.1
 |.fits p x=>(p.fits x).1
 |.tree d t=>(Tree.rd d t).1
 |.guard i=>[.guard i]
noncomputable def cR.val:cR→V:=fun x=>match x with
 |.leaf l=>l.rd.2.v
 |.asked a b=>(cL a b).v
 |.fW t=>t.rd.2.v
 |.fits p x=>(p.fits x).2.v
 |.tree d t=>(Tree.rd d t).2.v
 |.guard i=>(dM i).v
def cR.ok:cR→Prop:=fun x=>match x with
 |.leaf l=>l.ok
 |.asked a b=>a.ok∧b.ok
 |.fW t=>t.ok
 |.fits p x=>p.ok∧x.ok
 |.tree d t=>Tree.ok d t
 |.guard i=>0≤i∧i≤5
noncomputable def cR.rk:cR→Nat:=fun x=>match x with
 |.fW _=>1
 |.fits p _=>p.rk
 |.tree d _=>3+d
 |_=>0
noncomputable def cR.dp:cR→Nat:=fun x=>match x with
 |.fW _=>11
 |.fits p _=>8+3*p.rk
 |.tree d _=>3*d+17
 |_=>8
noncomputable def cR.all(x:cR)(mk:List V):List V:=mk++x.marks.map Mark.v
def ZL(l:List V):Prop:=bB l=true∧l.length≤400
theorem ZL.pre(h:ZL (a++b)):ZL a:=⟨tZ h.1,qy (qy (qp _ _) (qA List.length_append.symm)) h.2⟩
noncomputable def mB:Nat→Nat
 |0=>1
 |d+1=>40+2*mB d
noncomputable def dR(n:Nat):Spec:=fun d f as st W=>(∃(x:cR) (l:Nat) (mk:List V),x.rk<n∧f=x.fn∧as=x.args++[.loc l]∧x.dp≤d∧x.ok∧listAt st l=some ([],mk)∧ZL (x.all mk)∧
 W x.val (cD st l (.list [] (x.all mk))))∨(0<n∧∃x:Val,x.ok∧f=345∧as=[x.v]∧8≤d∧W (.str (eE x)) st)
noncomputable def Zt:List Addr:=[1210,1189,1224,1238,345,1203]
noncomputable def az(p:Program)(w:World)(K:Frag)(n:Nat):Cx:=kP p w (dR n) aI Zt K
theorem gx(l:List Mark):bB (l.map Mark.v)=true:=gr GX l
structure Tt (Z:List V) (w:V) (ms:List Mark) (v:V) (M:List V):Prop where
 e:M++ms.map Mark.v=Z
 v:v=w
structure uE (Z:List V) (w:V):Prop where
 l:ZL Z
 c:aJ w=true
theorem Tt.aft{m ms:List Mark}{v:V}{M:List V}(t:Tt Z w (m++ms) v M):Tt Z w ms v (M++m.map Mark.v):=⟨by rw[List.append_assoc,←List.map_append];exact t.e,t.v⟩
theorem Tt.zl{ms:List Mark}{v:V}{M:List V}(t:Tt Z w ms v M)(z:uE Z w):ZL M:=ZL.pre (t.e▸z.l)
def w6(Z:List V)(w:V)(p:V×St):Prop:=∀af,Fz af 1 p.2 false p.1 w∧CR af 1 p.2 [.list [] Z]
noncomputable def yU(r:aA (V×St)):Option (Prop×V×Option AO):=(zD (vw r)).map fun x=>(x.1,x.2.1,di x.2.2 0)
noncomputable def SA{α:Type}(r:aA α):Option (Prop×Nat×Addr×List V×Option (LV×List V)):=(DC (vw r)).map fun x=>(x.1,x.2.1,x.2.2.1,x.2.2.2.1,listAt x.2.2.2.2 0)
noncomputable def mH{α:Type}(r:aA α)(v:V)(M:List V):aA α:=jS r v (cD (mq r) 0 (.list [] M))
noncomputable def cR.out(x:cR):List Mark×V:=(x.marks,x.val)
section
variable{α:Type}{Q:α→Prop}{Z:List V}{ms:List Mark}
theorem bS(x:cR)(D:Nat)(hr:x.rk<n)(hD:x.dp≤D)(ok:x.ok)(z:uE Z w){u:V}(o:x.out=(m,v))(t:Tt Z w (m++ms) u M)(hk:Tt Z w ms u (M++m.map Mark.v)→Gd (dR n) aI (mH r v (M++m.map Mark.v)) Q)
  (h:SA r=some (True,D,x.fn,x.args++[.loc 0],some ([],M)):=by kernel_rfl):Gd (dR n) aI r Q:=by
 obtain⟨⟨p,d,f,as,st⟩,e,h⟩:=Option.map_eq_some_iff.mp h;injection h with h1 h;injection h with h2 h;injection h with h3 h;injection h with h4 h;have e:=zE e;injection o with o1 o2;subst o1 o2;obtain⟨k,e',_⟩:=xZ e;have es:mq r=st:=congrArg AF e';exact Fl (fun v st'=>v=x.val∧st'=cD st 0 (.list [] (x.all M))) (.inl ⟨x,0,M,hr,h3,h4,h2▸hD,ok,h,t.aft.zl z,rfl,rfl⟩) (fun _ _ e=>e.1▸e.2▸es▸hk t.aft) (h1▸trivial) e
theorem J6(t:Tt Z w [] v M)(z:uE Z w)(fz:∀af st,vw r=.ok p (u,st)→Fz af 1 st false u w)(hp:p)(h:yU r=some (p,u,some (.list [] M))):Gd (dR n) aI r (w6 Z w):=by
 obtain⟨⟨q,u',st⟩,e,k⟩:=Option.map_eq_some_iff.mp h;clear h;injection k with k1 k;injection k with k2 k;have e:=rj e;subst k1 k2;refine oY (fun af=>⟨fz af st e, ?_⟩) hp e;induction st using qh with
 |nil=>exact nn k
 |cons o st=>
  injection k with k;rw[show o=_ from k,←t.e,List.map_nil,List.append_nil];exact B3 (.list (fh (tZ (t.e▸z.l.1))))
theorem dH(t:Tt Z w [] v M)(z:uE Z w)(h:yU r=some (True,v,some (.list [] M)):=by kernel_rfl):Gd (dR n) aI r (w6 Z w):=J6 t z (fun _ _ _=>t.v▸.closed (t.v▸z.c)) trivial h
theorem rq(t:Tt Z w [] v M)(z:uE Z w)(hp:p)(h:yU r=some (p,v,some (.list [] M))):Gd (dR n) aI r (w6 Z w):=J6 t z (fun _ _ _=>t.v▸.closed (t.v▸z.c)) hp h
end
noncomputable def jI:List Val:=.none::.bool true::.bool false::(List.range 9).map fun j:Nat=>Val.int (Int.ofNat j)
theorem UE(h:x.ok):x∈jI:=by
 induction x using Val.casesOn with
 |none=>exact .head _
 |bool b=>induction b using qd with
  |true=>exact .tail _ (.head _)
  |false=>exact .tail _ (.tail _ (.head _))
 |int i=>exact .tail _ (.tail _ (.tail _ (List.mem_map.mpr ⟨i.toNat,List.mem_range.mpr (by have h1:0≤i∧i≤8:=h;lia),congrArg Val.int (Int.toNat_of_nonneg h.1)⟩)))
theorem m8{α:Type _}{f g:Val→α}(e:jI.map f=jI.map g){x:Val}(h:x.ok):f x=g x:=List.map_inj_left.mp e x (UE h)
theorem all_ints{α:Type _}{f g:Int→α}{m:Nat}(e:((List.range m).map fun j:Nat=>f (Int.ofNat j))=(List.range m).map fun j:Nat=>g (Int.ofNat j)){i:Int}(h:0≤i∧i<m):f i=g i:=by
 have k:=List.map_inj_left.mp e i.toNat (List.mem_range.mpr (by lia));have q:Int.ofNat i.toNat=i:=Int.toNat_of_nonneg h.1;rw[q]at k;exact k
section
variable(p:Program) (w:World) (K:Frag) (n:Nat)
noncomputable def nS(k:Nat)(fd:FuncData)(as mk:List V):aA (V×St):=fV (cX (az p w K n) 60) k fd [] [] (as++[.loc 0]) [.list [] mk]
def AL(k:Nat)(fd:FuncData)(x:cR):Prop:=∀mk,uE (x.all mk) x.val→Gd (dR n) aI (nS p w K n k fd x.args mk) (w6 (x.all mk) x.val)
end
section
variable{K:Frag}
theorem DG{x:cR}{v:V}(z:uE (x.all mk) v):mk.length<500∧True:=⟨by have:=z.l.pre.2;lia,trivial⟩
theorem B6(l:aH):AL p w K n (k+7) iL (.leaf l):=fun mk z=>by
 induction l using aH.casesOn with
 |int i=>exact rq (M:=cR.all (.leaf (.int i)) mk) ⟨List.append_nil _,rfl⟩ z (DG z) kr
 |nil=>exact dH (M:=mk) ⟨rfl,rfl⟩ z
 |gZ i=>exact dH (M:=mk) ⟨rfl,rfl⟩ z
set_option maxHeartbeats 4000000 in
theorem Qi{k:Nat}(a b:Val)(ha:a.ok)(hb:b.ok):AL p w K n (k+7) AD (.asked a b):=fun mk z=>by
 have key:jI.map (fun a=>jI.map fun b=>yU (nS p w K n (k+7) AD [a.v,b.v] mk))=jI.map fun a=>jI.map fun b=>some ((mk.length<500∧True),(cL a b).v,some (AO.list [] (mk++[Mark.v (.asked a b)]))):=kr;exact rq (M:=cR.all (.asked a b) mk) ⟨List.append_nil _,rfl⟩ z (DG z) (m8 (m8 key ha) hb)
theorem Qj{k:Nat}(i:Int)(hi:0≤i∧i≤5):AL p w K n (k+7) wN (.guard i):=fun mk z=>by
 have key:((List.range 6).map fun j:Nat=>yU (nS p w K n (k+7) wN [.int (Int.ofNat j)] mk))=(List.range 6).map fun j:Nat=>some ((mk.length<500∧True),(dM (Int.ofNat j)).v,some (AO.list [] (mk++[Mark.v (.guard (Int.ofNat j))]))):=kr;exact rq (M:=cR.all (.guard i) mk) ⟨List.append_nil _,rfl⟩ z (DG z) (all_ints (f:=fun i=>yU (nS p w K n (k+7) wN [.int i] mk)) (g:=fun i=>some ((mk.length<500∧True),(dM i).v,some (AO.list [] (mk++[Mark.v (.guard i)])))) key ⟨hi.1,by omega⟩)
end
noncomputable def sY(ws:List V)(b:List aH):List Mark×V:=match bZ b with
 |(m,.vals ys)=>(m,.tup [.str "value",.lst (ws++ys.map Val.v)])
 |(m,.raise z)=>(m,.tup [.str "raise",z.v])
theorem CW(h:l.rd=(m,.val x)):sY ws (l::b)=(m++(sY (ws++[x.v]) b).1,(sY (ws++[x.v]) b).2):=by
 unfold sY;rw[bZ,h];induction bZ b using qn with
 |mk m' w'=>induction w' using dK.casesOn with
  |raise=>rfl
  |vals ys=>exact congrArg (fun z=>(m++m',V.tup [.str "value",.lst z])) (List.append_assoc ws [x.v] _).symm
theorem Na(ws:List V):sY ws []=([],.tup [.str "value",.lst ws]):=congrArg (fun z=>(([]:List Mark),V.tup [.str "value",.lst z])) (List.append_nil ws)
noncomputable def vwL(j:Nat)(r:aA (V×St)):Option (Prop×V×Option AO×Option AO):=(zD (vw r)).map fun x=>(x.1,x.2.1,di x.2.2 0,di x.2.2 j)
section
variable{K:Frag}
theorem uF(j:Nat)(hj:1≤j)(t:Tt Z z [] (.tup [.str "value",.lst ws]) M)(o:uE Z z)(c:bB ws=true)(hp:q)
  (h:vwL j r=some (q,.tup [.str "value",.loc j],some (.list [] M),some (.list [] ws))):Gd (dR n) aI r (w6 Z z):=by
 obtain⟨⟨q',u',st⟩,e,h⟩:=Option.map_eq_some_iff.mp h;injection h with h1 h;injection h with h2 h;injection h with h3 h;refine J6 (u:=.tup [.str "value",.loc j]) t o (fun af st' e'=> ?_) hp (by unfold yU;rw[e,←h1,←h2,←h3];rfl);rw[rj e]at e';injection e' with _ e';injection e' with _ e';rw[←t.v,←e'];exact Sx (.closed (jd _)) (.lst hj ((gI _ _).symm.trans h) (fh c))
noncomputable def tsM(ls:List aH):ai:=[("trees",.lst (ls.map aH.v)),("marks",.loc 0),("found",.loc 1)]
theorem Nb(hn:0<n)(t:aB)(ok:t.ok):AL p w K n (k+10) E7 (.fW t):=fun mk z=>by
 induction t using aB.casesOn with
 |leaf l=>
  induction l using aH.casesOn with
  |int i=>exact bS (.leaf (.int i)) (k+9) hn (qg 8 (k+1)) ok z rfl (ms:=[]) ⟨rfl,rfl⟩ fun t=>uF 2 (by decide) (ws:=[.int i]) t z rfl (q:=([]:List V).length<500∧True) ⟨by decide,trivial⟩ kr
  |nil=>exact bS (.leaf .nil) (k+9) hn (qg 8 (k+1)) ok z rfl (ms:=[]) ⟨rfl,rfl⟩ fun t=>uF 2 (by decide) (ws:=[.none]) t z rfl (q:=([]:List V).length<500∧True) ⟨by decide,trivial⟩ kr
  |gZ i=>exact bS (.leaf (.gZ i)) (k+9) hn (qg 8 (k+1)) ok z rfl (ms:=[]) ⟨rfl,rfl⟩ fun t=>dH t z
 |jc l=>
  induction l using aH.casesOn with
  |int i=>exact bS (.leaf (.int i)) (k+10) hn (qg 8 (k+2)) ok z rfl (ms:=[]) ⟨rfl,rfl⟩ fun t=>uF 1 (by decide) (ws:=[.int i]) t z rfl trivial kr
  |nil=>exact bS (.leaf .nil) (k+10) hn (qg 8 (k+2)) ok z rfl (ms:=[]) ⟨rfl,rfl⟩ fun t=>uF 1 (by decide) (ws:=[]) t z rfl trivial kr
  |gZ i=>exact bS (.leaf (.gZ i)) (k+10) hn (qg 8 (k+2)) ok z rfl (ms:=[]) ⟨rfl,rfl⟩ fun t=>dH t z
 |iN ls=>
  refine ig aH.v (fun _=>tsM ls) (fun s:List V×List V=>[.list [] s.1,.list [] s.2]) (fun b s=>Tt (cR.all (.fW (.iN ls)) mk) (cR.val (.fW (.iN ls))) (sY s.2 b).1 (sY s.2 b).2 s.1∧bB s.2=true∧s.2.length+b.length≤3∧∀l∈b,l.ok)
   (s0:=(mk,[])) ⟨?_,rfl,by show 0+_≤_;rw[Nat.zero_add];exact ok.1,ok.2⟩ (fun l b s t P kY hr=> ?_) fun s t=> ?_
  ·unfold sY;induction e:bZ ls using qn with
   |mk m w'=>
    have q:cR.all (.fW (.iN ls)) mk=mk++m.map Mark.v:=by show mk++(bZ ls).1.map Mark.v=_;rw[e]
    have q':cR.val (.fW (.iN ls))=w'.v:=by show(bZ ls).2.v=_;rw[e]
    rw[q,q'];induction w' using dK.casesOn<;>exact⟨rfl,rfl⟩
  ·obtain⟨t,c,hl,eN⟩:=t;have lI:=eN l qi;have sZ:∀a∈b,a.ok:=fun a h=>eN a (qj _ h);have hl:(s.2.length+b.length)+1≤3:=hl;have hq:s.2.length<500∧True:=⟨by lia,trivial⟩;induction l using aH.casesOn with
   |int i=>
    rw[CW (x:=.int i) rfl]at t;exact bS (.leaf (.int i)) (k+9) hn (qg 8 (k+1)) lI z rfl t fun t=>gO kY (_,s.2++[.int i]) ⟨t,fO c rfl,by rw[List.length_append];show _+1+_≤_;lia,sZ⟩ hq kr
   |nil=>
    rw[CW (x:=.none) rfl]at t;exact bS (.leaf .nil) (k+9) hn (qg 8 (k+1)) lI z rfl t fun t=>gO kY (_,s.2++[.none]) ⟨t,fO c rfl,by rw[List.length_append];show _+1+_≤_;lia,sZ⟩ hq kr
   |gZ i=>
    exact bS (.leaf (.gZ i)) (k+9) hn (qg 8 (k+1)) lI z rfl (ms:=[]) t fun t=>iy hr (.tup [.str "raise",.int i]) [.list [] (cR.all (.leaf (.gZ i)) s.1),.list [] s.2] fun m=>dH t z
  ·obtain⟨t,c,_⟩:=t;rw[Na]at t;exact uF 1 (by decide) t z c trivial kr
end
theorem J7(n:Int):wW n=.bool true∨wW n=.int 0∨wW n=.none∨wW n=.bool false:=by
 unfold wW
 split
 ·exact .inl rfl
 ·split
  ·exact .inr (.inl rfl)
  ·split
   ·exact .inr (.inr (.inl rfl))
   ·exact .inr (.inr (.inr rfl))
theorem B7(n:Int):(wW n).ok:=by
 rcases J7 n with h|h|h|h<;>rw[h]
 ·exact trivial
 ·exact⟨by decide,by decide⟩
 ·exact trivial
 ·exact trivial
def CX(x:bu):Prop:=match x with
 |.val x=>x.ok
 |.raise _=>True
theorem Nc:CX (cL a b):=by
 unfold cL
 split
 ·trivial
 ·exact B7 _
noncomputable def SD(x:bu):ff:=match x with
 |.raise z=>.raise z
 |.val y=>.val y.holds
theorem Fx{l:aH}(h:l.rd=(m,.val x)):l.fits v=(m++[.asked x v],SD (cL x v)):=by
 unfold aH.fits;rw[h];dsimp only;induction cL x v using bu.casesOn<;>rfl
theorem AM{l:aH}(h:l.rd=(m,.raise z)):l.fits v=(m,.raise z):=by
 unfold aH.fits;rw[h]
theorem Nd(e:l.rd=(m,x)):(cR.leaf l).out=(m,x.v):=congrArg (fun q:Rd=>(q.1,q.2.v)) e
theorem nT(e:q.fits v=(m,x)):(cR.fits q v).out=(m,x.v):=congrArg (fun q:List Mark×ff=>(q.1,q.2.v)) e
theorem pJ(e:Tree.rd d t=(m,x)):(cR.tree d t).out=(m,x.v):=congrArg (fun q:Rd=>(q.1,q.2.v)) e
section
variable{K:Frag}
theorem Fy{k:Nat}(x:Str)(v:Val):AL p w K n (k+10) pG (.fits (.bind x) v):=fun mk z=>rq (M:=cR.all (.fits (.bind x) v) mk) ⟨List.append_nil _,rfl⟩ z (DG z) kr
theorem GY{k:Nat}(hn:0<n)(l:aH)(v:Val)(ok:l.ok)(uG:v.ok):AL p w K n (k+10) pG (.fits (.lit l) v):=fun mk z=>by
 have t:Tt (cR.all (.fits (.lit l) v) mk) (cR.val (.fits (.lit l) v)) (l.fits v).1 (l.fits v).2.v mk:=⟨rfl,rfl⟩;induction e:l.rd using qn with
 |mk m x=>
  induction x using bu.casesOn with
  |raise y=>
   rw[AM e]at t;exact bS (.leaf l) (k+10) hn (qg 8 (k+2)) ok z (Nd e) (ms:=[]) ((List.append_nil m).symm▸t) fun t=>dH t z
  |val x=>
   rw[Fx e]at t;have fD:CX l.rd.2:=by induction l using aH.casesOn<;>first|exact ok|trivial
   rw[e]at fD;refine bS (.leaf l) (k+10) hn (qg 8 (k+2)) ok z (Nd e) t fun t=> ?_;refine bS (.asked x v) (k+10) hn (qg 8 (k+2)) ⟨fD,uG⟩ z (m:=[.asked x v]) (v:=(cL x v).v) rfl (ms:=[]) t fun t=> ?_;have o:=Nc (a:=x) (b:=v);generalize cL x v=y at t o;induction y using bu.casesOn with
   |raise y=>exact dH t z
   |val y=>exact dH t z (m8 (f:=fun y=>yU (mH (mH (nS p w K n (k+10) pG (cR.args (.fits (.lit l) v)) mk) (bu.val x).v (mk++m.map Mark.v)) (bu.val y).v ((mk++m.map Mark.v)++[Mark.asked x v].map Mark.v))) (g:=fun y=>some (True,(ff.val y.holds).v,some (AO.list [] ((mk++m.map Mark.v)++[Mark.asked x v].map Mark.v)))) kr o)
noncomputable def alM(ls:List aH)(v:Val):ai:=[("shape1",cK.v (.alt ls)),("value",v.v),("marks",.loc 0)]
theorem GZ(hn:1<n)(ls:List aH)(v:Val)(ok:∀l∈ls,l.ok)(uG:v.ok):AL p w K n (k+13) pG (.fits (.alt ls) v):=fun mk z=>by
 refine ig (fun l=>cK.v (.lit l)) (fun _=>alM ls v) (fun M:List V=>[.list [] M]) (fun b M=>Tt (cR.all (.fits (.alt ls) v) mk) (cR.val (.fits (.alt ls) v)) (cU v b).1 (cU v b).2.v M∧∀l∈b,l.ok)
  (s0:=mk) ⟨⟨rfl,rfl⟩,ok⟩ (fun l b M t P kY hr=> ?_) fun M t=>dH t.1 z
 obtain⟨t,eN⟩:=t;rw[cU.eq_2]at t;have lI:=eN l qi;have sZ:∀a∈b,a.ok:=fun a h=>eN a (qj _ h);induction e:l.fits v using qn with
 |mk m f=>
  rw[e]at t;induction f using ff.casesOn with
  |raise y=>
   replace t:Tt _ _ m (ff.raise y).v M:=t;exact bS (.fits (.lit l) v) (k+13) hn (qg 11 (k+2)) ⟨lI,uG⟩ z (nT e) (ms:=[]) ((List.append_nil m).symm▸t) fun t=>iy hr (ff.raise y).v [.list [] (M++m.map Mark.v)] fun m=>dH t z
  |val y=>induction y using qd with
   |true=>
    replace t:Tt _ _ m (ff.val true).v M:=t;exact bS (.fits (.lit l) v) (k+13) hn (qg 11 (k+2)) ⟨lI,uG⟩ z (nT e) (ms:=[]) ((List.append_nil m).symm▸t) fun t=>iy hr (ff.val true).v [.list [] (M++m.map Mark.v)] fun m=>dH t z
   |false=>
    replace t:Tt _ _ (m++(cU v b).1) (cU v b).2.v M:=t;exact bS (.fits (.lit l) v) (k+13) hn (qg 11 (k+2)) ⟨lI,uG⟩ z (nT e) t fun t=>jG kY _ ⟨t,sZ⟩
end
section
variable{α:Type} (rd:α→Rd) (ay:Option Val) (o:Option α) (body:α)
noncomputable def fQ(rest:List (List aB×α))(ts:List aB):Rd:=match jn ay ts with
 |(mk,.raise z)=>(mk,.raise z)
 |(mk,.hit)=>after mk (rd body)
 |(mk,.miss)=>after mk (fc rd ay o rest)
noncomputable def c7(rest:List (List aB×α))(ts:List aB)(vs:List Val):Rd:=match kc ay vs with
 |(mk,.raise z)=>(mk,.raise z)
 |(mk,.hit)=>after mk (rd body)
 |(mk,.miss)=>after mk (fQ rd ay o body rest ts)
theorem s9(rest:List (List aB×α))(ts:List aB):c7 rd ay o body rest ts []=fQ rd ay o body rest ts:=rfl
theorem qZ(rest:List (List aB×α))(t:aB)(ts:List aB):fQ rd ay o body rest (t::ts)=match t.rd with
  |(mk,.raise z)=>(mk,.raise z)
  |(mk,.vals vs)=>after mk (c7 rd ay o body rest ts vs):=by
 unfold fQ c7;rw[jn.eq_2];induction t.rd using qn with
 |mk m w=>induction w using dK.casesOn with
  |raise z=>rfl
  |vals vs=>
   dsimp only;induction kc ay vs using qn with
   |mk m2 oo=>induction oo using wU.casesOn with
    |hit=>simp[after]
    |raise z=>simp[after]
    |miss=>
     dsimp only;unfold fQ;induction jn ay ts using qn with
     |mk m3 o3=>induction o3 using wU.casesOn<;>simp[after]
theorem lX(rest:List (List aB×α))(ts:List aB)(v:Val)(vs:List Val):c7 rd ay o body rest ts (v::vs)=match wX ay v with
  |(mk,.raise z)=>(mk,.raise z)
  |(mk,.val x)=>if x.holds=true then after mk (rd body)else after mk (c7 rd ay o body rest ts vs):=by
 unfold c7;rw[kc.eq_2];induction wX ay v using qn with
 |mk m w=>induction w using bu.casesOn with
  |raise z=>rfl
  |val x=>
   dsimp only;by_cases h:x.holds=true
   ·rw[if_pos h,if_pos h]
   ·rw[if_neg h,if_neg h];induction kc ay vs using qn with
    |mk m2 oo=>induction oo using wU.casesOn<;>simp[after]
end
theorem yV{α:Type}{rd:α→Rd}{s:Option Val}{o:Option α}{b:α}{r:List (List aB×α)}{t:aB}{ts:List aB}{m:List Mark}{z:Rz}(e:t.rd=(m,.raise z)):fQ rd s o b r (t::ts)=(m,.raise z):=by rw[qZ,e]
theorem AN{α:Type}{rd:α→Rd}{s:Option Val}{o:Option α}{b:α}{r:List (List aB×α)}{t:aB}{ts:List aB}{m:List Mark}{xs:List Val}(e:t.rd=(m,.vals xs)):fQ rd s o b r (t::ts)=after m (c7 rd s o b r ts xs):=by rw[qZ,e]
def FA(m:Mark):Prop:=match m with
 |.made i=>0≤i∧i≤8
 |.asked a b=>a.ok∧b.ok
 |.guard i=>0≤i∧i≤5
 |.bound n b=>(n.length≤100∧ny n)∧b.ok
def B8(z:Rz):Prop:=match z with
 |.int i=>0≤i∧i≤100
 |.str s=>∃x:Val,x.ok∧s="NoMatchingPatternError "++eE x
def o7(w:bu):Prop:=match w with
 |.val x=>x.ok
 |.raise z=>B8 z
theorem o7.w{w:bu}(h:o7 w):CX w:=by
 induction w using bu.casesOn with
 |val=>exact h
 |raise=>exact trivial
def ye(l:List Mark):Prop:=∀m∈l,FA m
structure Mk (b:Nat) (l:List Mark):Prop where
 m:ye l
 l:l.length≤b
section
variable{m:List Mark}
theorem Mk.le(h:Mk b m)(hb:b≤c):Mk c m:=⟨h.m,qy h.l hb⟩
theorem Mk.app(h:Mk b m)(h2:Mk c k):Mk (b+c) (m++k):=⟨fun a ha=>(List.mem_append.mp ha).elim (h.m a) (h2.m a),List.length_append▸Nat.add_le_add h.l h2.l⟩
theorem Mk.one(ha:FA a):Mk 1 [a]:=⟨fun y hy=>(List.mem_singleton.mp hy).symm▸ha,qf 1⟩
theorem Mk.nil:Mk b []:=⟨(fun _ h=>nomatch h),qm b⟩
end
structure G {β:Type} (ok:β→Prop) (b:Nat) (r:List Mark×β):Prop where
 w:ok r.2
 k:Mk b r.1
abbrev GR(b:Nat)(r:Rd):Prop:=G o7 b r
theorem G.le{β:Type}{ok:β→Prop}{b c:Nat}{r:List Mark×β}(h:G ok b r)(hb:b≤c):G ok c r:=⟨h.w,h.k.le hb⟩
def vg(n:Nat)(a:dK):Prop:=match a with
 |.vals xs=>xs.length≤n∧∀x∈xs,x.ok
 |.raise z=>B8 z
def AP(s:Option Val):Prop:=match s with
 |none=>True
 |some x=>x.ok
def WY(t:wU):Prop:=match t with
 |.raise z=>B8 z
 |_=>True
def DH(f:ff):Prop:=match f with
 |.raise z=>B8 z
 |_=>True
theorem w7{l:aH}(h:l.ok):GR 1 l.rd:=by
 induction l using aH.casesOn with
 |int i=>exact⟨h,.one h⟩
 |nil=>exact⟨trivial,.nil⟩
 |gZ i=>exact⟨h,.nil⟩
theorem HZ:(∀l∈ls,l.ok)→G (vg ls.length) ls.length (bZ ls):=by
 induction ls with
 |nil=>exact fun _=>⟨⟨qf 0,fun _ h=>nomatch h⟩,.nil⟩
 |cons l ls ih=>
  intro ok;have h1:=w7 (ok l qi);have h2:=ih fun a h=>ok a (qj _ h);have e:1+ls.length≤(l::ls).length:=qA (Nat.add_comm 1 _);rw[bZ];generalize l.rd=q at h1;obtain⟨m,q⟩:=q;induction q using bu.casesOn with
  |raise z=>exact⟨h1.w,h1.k.le (qg 1 _)⟩
  |val x=>
   generalize bZ ls=q at h2;obtain⟨m2,q⟩:=q;induction q using dK.casesOn with
   |raise z=>exact⟨h2.w,(h1.k.app h2.k).le e⟩
   |vals xs=>exact⟨⟨Nat.succ_le_succ h2.w.1,fun y hy=>(List.mem_cons.mp hy).elim (fun q=>q▸h1.w) (h2.w.2 y)⟩,(h1.k.app h2.k).le e⟩
theorem vg.le(h:vg n a)(e:n≤m):vg m a:=by
 induction a using dK.casesOn with
 |vals xs=>exact⟨qy h.1 e,h.2⟩
 |raise z=>exact h
theorem Nf{t:aB}(h:t.ok):G (vg 3) 3 t.rd:=by
 induction t using aB.casesOn with
 |leaf l=>
  have g:=HZ (ls:=[l]) fun a q=>(List.mem_singleton.mp q)▸h;exact⟨vg.le g.w (by decide:1≤3),g.k.le (by decide:1≤3)⟩
 |iN ls=>
  have g:=HZ h.2;exact⟨vg.le g.w h.1,g.k.le h.1⟩
 |jc l=>induction l using aH.casesOn with
  |int i=>exact⟨⟨(by decide:1≤3),fun x q=>(List.mem_singleton.mp q)▸h⟩,(Mk.one (a:=.made i) h).le (by decide)⟩
  |nil=>exact⟨⟨(by decide:0≤3),fun _ q=>nomatch q⟩,.nil⟩
  |gZ i=>exact⟨h,.nil⟩
theorem H8{t:aB}(ok:t.ok)(xs:List Val)(e:t.rd.2=.vals xs):xs.length≤3∧∀x∈xs,x.ok:=by
 have g:=(Nf ok).w;rw[e]at g;exact g
theorem Ng{t:aB}(ok:t.ok)(e:t.rd=(m,.vals xs)):xs.length≤3∧∀x∈xs,x.ok:=H8 ok xs (congrArg Prod.snd e)
theorem FG:o7 (cL a b):=by
 unfold cL
 split
 ·exact⟨by decide,by decide⟩
 ·exact B7 _
theorem Qk:o7 (dM n):=by
 unfold dM
 split
 ·exact⟨by decide,by decide⟩
 ·split
  ·exact⟨by decide,by decide⟩
  ·exact B7 n
theorem WZ(hs:AP s)(hv:v.ok):GR 1 (wX s v):=by
 induction s using qe with
 |none=>exact⟨hv,.nil⟩
 |some x=>exact⟨FG,.one ⟨hv,hs⟩⟩
theorem Ql(hs:AP s):(∀x∈vs,x.ok)→G WY vs.length (kc s vs):=by
 induction vs with
 |nil=>exact fun _=>⟨trivial,.nil⟩
 |cons v vs ih=>
  intro ok;have h1:=WZ hs (ok v qi);have h2:=ih fun a h=>ok a (qj _ h);rw[kc.eq_2];generalize wX s v=q at h1;obtain⟨m,q⟩:=q;have l1:1≤(v::vs).length:=qg 1 _;induction q using bu.casesOn with
  |raise z=>exact⟨h1.w,h1.k.le l1⟩
  |val y=>
   show G WY _ (if y.holds=true then(m,.hit)else(m++(kc s vs).1,(kc s vs).2));induction y.holds using qd with
   |true=>exact⟨trivial,h1.k.le l1⟩
   |false=>exact⟨h2.w,(h1.k.app h2.k).le (qA (Nat.add_comm 1 _))⟩
theorem J8(hs:AP s){ts:List aB}:(∀t∈ts,t.ok)→G WY (6*ts.length) (jn s ts):=by
 induction ts with
 |nil=>exact fun _=>⟨trivial,.nil⟩
 |cons t ts ih=>
  intro ok;have h1:=Nf (ok t qi);have h2:=ih fun a h=>ok a (qj _ h);have e:3+3+6*ts.length≤6*(t::ts).length:=by rw[List.length_cons];lia
  rw[jn.eq_2];generalize t.rd=q at h1;obtain⟨m,q⟩:=q;induction q using dK.casesOn with
  |raise z=>exact⟨h1.w,h1.k.le (by exact dU)⟩
  |vals xs=>
   have h3:=Ql hs h1.w.2;have hx:=h1.w.1;dsimp only;generalize kc s xs=q at h3⊢;obtain⟨m2,q⟩:=q;have h4:=h1.k.app (h3.k.le hx);induction q using wU.casesOn with
   |miss=>exact⟨h2.w,(h4.app h2.k).le e⟩
   |hit=>exact⟨trivial,h4.le (by exact dU)⟩
   |raise z=>exact⟨h3.w,h4.le (by lia)⟩
theorem H9{α:Type}{rd:α→Rd}{b:Nat}{z:bu}(hz:o7 z){o:Option α}(h:∀a,o=some a→GR b (rd a)):GR b (lR rd z o):=by
 induction o using qe with
 |none=>exact⟨hz,.nil⟩
 |some a=>exact h a rfl
theorem oS(h:Mk b m)(h2:GR c r)(l:b+c≤e):GR e (after m r):=⟨h2.w,(h.app h2.k).le l⟩
theorem Ia{α:Type}{rd:α→Rd}{b:Nat}{s:Option Val}{o:Option α}(hs:AP s)(ho:∀a,o=some a→GR b (rd a)){ws:List (List aB×α)}:(∀w∈ws,((1≤w.1.length∧w.1.length≤2)∧∀t∈w.1,t.ok)∧GR b (rd w.2))→GR (12*ws.length+b) (fc rd s o ws):=by
 induction ws with
 |nil=>exact fun _=>(H9 (z:=.val .none) trivial ho).le (qg b 0)
 |cons w ws ih=>
  intro h;obtain⟨ts,bd⟩:=w;obtain⟨⟨l2,ht⟩,hb⟩:=h _ qi;have ih:=ih fun a q=>h a (qj _ q);have h3:=J8 hs ht;have l2:ts.length≤2:=l2.2;have e:6*ts.length+(12*ws.length+b)≤12*((ts,bd)::ws).length+b:=by rw[List.length_cons];lia
  show GR _ (match jn s ts with|(mk,.raise z)=>(mk,.raise z)|(mk,.hit)=>after mk (rd bd)|(mk,.miss)=>after mk (fc rd s o ws));generalize jn s ts=q at h3;obtain⟨m,q⟩:=q;induction q using wU.casesOn with
  |raise z=>exact⟨h3.w,h3.k.le (by exact Rn ‹_›)⟩
  |hit=>exact oS h3.k hb (by lia)
  |miss=>exact oS h3.k ih e
theorem Nh{l:aH}(ok:l.ok)(hx:x.ok):G DH 2 (l.fits x):=by
 have h1:=w7 ok;induction e:l.rd using qn with
 |mk m q=>
  rw[e]at h1;induction q using bu.casesOn with
  |raise z=>rw[AM e];exact⟨h1.w,h1.k.le (qK 1)⟩
  |val y=>
   rw[Fx e];have h2:=FG (a:=y) (b:=x);exact⟨(by generalize cL y x=q at h2;induction q using bu.casesOn with|raise=>exact h2|val=>exact trivial:DH (SD (cL y x))),h1.k.app (Mk.one (a:=.asked y x) ⟨h1.w,hx⟩)⟩
theorem Ni{x:Val}(hx:x.ok):(∀l∈ls,l.ok)→G DH (2*ls.length) (cU x ls):=by
 induction ls with
 |nil=>exact fun _=>⟨trivial,.nil⟩
 |cons l ls ih=>
  intro ok;have h1:=Nh (ok l qi) hx;have h2:=ih fun a h=>ok a (qj _ h);have e:2+2*ls.length≤2*(l::ls).length:=by rw[List.length_cons];lia
  rw[cU.eq_2];generalize l.fits x=q at h1;obtain⟨m,q⟩:=q;induction q using ff.casesOn with
  |raise z=>exact⟨h1.w,h1.k.le (by exact dU)⟩
  |val b=>induction b using qd with
   |true=>exact⟨trivial,h1.k.le (by lia)⟩
   |false=>exact⟨h2.w,(h1.k.app h2.k).le e⟩
theorem B9{x:Val}{q:cK}(ok:q.ok)(hx:x.ok):G DH 6 (q.fits x):=by
 induction q using cK.casesOn with
 |bind n=>exact⟨trivial,(Mk.one (a:=.bound n x) ⟨ok,hx⟩).le (by decide)⟩
 |lit l=>exact(Nh ok hx).le (by decide)
 |alt ls=>exact(Ni hx ok.2).le (by have:=ok.1;lia)
theorem CY(hx:x.ok):B8 (jF x):=⟨x,hx,rfl⟩
theorem W2{α:Type}{rd:α→Rd}{b:Nat}{x:Val}{o:Option α}(hx:x.ok)(ho:∀a,o=some a→GR b (rd a)){as:List (cK×Option Int×α)}:(∀a∈as,a.1.ok∧oN a.2.1∧GR b (rd a.2.2))→GR (7*as.length+b) (cI rd x o as):=by
 induction as with
 |nil=>exact fun _=>(H9 (z:=.raise (jF x)) (CY hx) ho).le (qg b 0)
 |cons a as ih=>
  intro h;obtain⟨q,g,bd⟩:=a;obtain⟨hq,hg,hb⟩:=h _ qi;have ih:=ih fun a q=>h a (qj _ q);have h3:=B9 hq hx;have e:6+1+(7*as.length+b)≤7*((q,g,bd)::as).length+b:=by rw[List.length_cons];lia
  have e1:6+1≤7*((q,g,bd)::as).length+b:=by exact Rn ‹_›
  rw[cI.eq_2];generalize q.fits x=f at h3;obtain⟨m,f⟩:=f;induction f using ff.casesOn with
  |raise z=>exact⟨h3.w,h3.k.le (by exact qL ‹_›)⟩
  |val v=>induction v using qd with
   |false=>exact oS h3.k ih (by lia)
   |true=>induction g using qe with
    |none=>exact oS h3.k hb (by lia)
    |some n=>
     have h4:=h3.k.app (Mk.one (a:=.guard n) hg);have h5:=Qk (n:=n);show GR _ (match dM n with|.raise z=>(m++[.guard n],.raise z)|.val Nj=>if Nj.holds=true then after (m++[.guard n]) (rd bd)else after (m++[.guard n]) (cI rd x o as));generalize dM n=u at h5;induction u using bu.casesOn with
     |raise z=>exact⟨h5,h4.le e1⟩
     |val y=>
      show GR _ (if y.holds=true then _ else _);induction y.holds using qd with
      |true=>exact oS h4 hb (by lia)
      |false=>exact oS h4 ih e
theorem AQ(h:GR b r)(hf:∀x,x.ok→GR c (f x))(l:b+c≤e):GR e (dh r f):=by
 obtain⟨m,w⟩:=r;induction w using bu.casesOn with
 |raise z=>exact⟨h.w,h.k.le (by exact Rn ‹_›)⟩
 |val x=>exact oS h.k (hf x h.w) l
theorem Qm(hq:q.ok)(hx:x.ok):GR 6 (gM q x):=by
 have h:=B9 hq hx;unfold gM;generalize q.fits x=f at h;obtain⟨m,f⟩:=f;induction f using ff.casesOn with
 |raise z=>exact⟨h.w,h.k⟩
 |val b=>exact⟨trivial,h.k⟩
theorem Qn(hq:q.ok)(hx:x.ok):GR 6 (eg q x):=by
 have h:=B9 hq hx;unfold eg;generalize q.fits x=f at h;obtain⟨m,f⟩:=f;induction f using ff.casesOn with
 |raise z=>exact⟨h.w,h.k⟩
 |val b=>induction b using qd with
  |true=>exact⟨trivial,h.k⟩
  |false=>exact⟨CY hx,h.k⟩
theorem mJ{d:Nat}:∀{t:Tree d},Tree.ok d t→GR (mB d) (Tree.rd d t):=by
 induction d with
 |zero=>exact fun ok=>w7 ok
 |succ d ih=>
  intro t ok;have hb:mB (d+1)=40+2*mB d:=rfl;have oo:∀{o:Option (Tree d)},oX (Tree.ok d) o→∀a,o=some a→GR (mB d) (Tree.rd d a):=fun h a e=>ih (by subst e;exact h);have t:Tr (Tree d):=t
  rename_i t0
  have t:Tr (Tree d):=t0;show GR (40+2*mB d) (Tr.rd (Tree.rd d) t0);replace ok:Tr.ok (Tree.ok d) t0:=ok;induction t0 using Tr.casesOn with
  |leaf l=>exact(w7 ok).le (by lia)
  |jT s ws o=>
   have hl:ws.length≤3:=ok.2.1.1;have hw:∀w∈ws,((1≤w.1.length∧w.1.length≤2)∧∀t∈w.1,t.ok)∧GR (mB d) (Tree.rd d w.2):=fun w h=>⟨(ok.2.1.2 w h).1,ih (ok.2.1.2 w h).2⟩;induction s using qe with
   |none=>exact(Ia (s:=none) trivial (oo ok.2.2) hw).le (by lia)
   |some s=>exact AQ (ih ok.1) (fun x hx=>Ia (s:=some x) hx (oo ok.2.2) hw) (by lia)
  |jD s as o=>
   have hl:as.length≤3:=ok.2.1.1;exact AQ (ih ok.1) (fun x hx=>W2 hx (oo ok.2.2) fun a h=>⟨(ok.2.1.2 a h).1,(ok.2.1.2 a h).2.1,ih (ok.2.1.2 a h).2.2⟩) (by lia)
  |j9 s q=>exact AQ (ih ok.1) (fun x hx=>Qm ok.2 hx) (by lia)
  |jE s q=>exact AQ (ih ok.1) (fun x hx=>Qn ok.2 hx) (by lia)
noncomputable def J9(r:aA cz):cz:=match r with
 |.ok p=>p
 |_=>((.brk,[]),[])
noncomputable def yW(r:aA cz):Out:=(J9 (strip r)).1.1
noncomputable def tw(r:aA cz):ai:=(J9 (strip r)).1.2
noncomputable def lY(r:aA cz):St:=(J9 (strip r)).2
section
theorem Nk(h:JQ s=true)(q:Q (J9 s)):Good S pre s Q:=by
 cases s with
 |ok=>exact q
 |_=>exact ft h
theorem w9(h:iM r=true)(n:jb r)(q:Q ((yW r,tw r),lY r)):Gd S pre r Q:=⟨gk n.out (Nk h q)⟩
end
section
variable{K:Frag}{Z:List V}
theorem AR(e:t.rd=(m,x)):(cR.fW t).out=(m,x.v):=congrArg (fun q:List Mark×dK=>(q.1,q.2.v)) e
theorem vh(d:Nat):3*d+17≤3*d+18:=qK _
theorem Ca(d:Nat):3*d+17≤3*d+19:=qp _ 2
theorem SE(d:Nat):11≤3*d+18:=qg 11 (3*d+7)
theorem SG(d:Nat):8≤3*d+18:=qg 8 (3*d+10)
theorem AS(h:3+d<n):1<n:=by lia
theorem d9(t:Tt Z v m u M):Tt Z v (m++[]) u M:=(List.append_nil m).symm▸t
noncomputable def cN1(tv:V):ai:=[("tree",tv),("marks",V.loc 0),("subject",V.none),("has_subject",V.bool false)]
noncomputable def cN2(tv ts b:V):ai:=[("tree",tv),("marks",V.loc 0),("subject",V.none),("has_subject",V.bool false),("tests",ts),("body",b)]
noncomputable def SH(tv ts b c u:V):ai:=[("tree",tv),("marks",V.loc 0),("subject",V.none),("has_subject",V.bool false),("tests",ts),("body",b),("check",c),("way",u)]
theorem Qo(hn:3+d<n)(ws:List (List aB×Tree d))(o:Option (Tree d))(ok:gQ ws)(Fv:oX (Tree.ok d) o)(z:uE Z v)(t:Tt Z v (fc (Tree.rd d) none o ws).1 (fc (Tree.rd d) none o ws).2.v mk):
  Gd (dR n) aI (nS p w K n (3*d+19) iL [Tree.v (d+1) (pH d (.jT none ws o))] mk) (w6 Z v):=by
 let tv:=Tree.v (d+1) (pH d (.jT none ws o))
 let r0:=nS p w K n (3*d+19) iL [tv] mk
 show Gd _ _ r0 _;refine ig ve (fun _=>cN1 tv) (fun M:List V=>[.list [] M]) (fun b M=>Tt Z v (fc (Tree.rd d) none o b).1 (fc (Tree.rd d) none o b).2.v M∧gQ b) ⟨t,ok⟩ (fun x ws M t P AJ hr=> ?_) fun M t=> ?_
 ·obtain⟨ts,b⟩:=x;obtain⟨t,eN⟩:=t;obtain⟨⟨_,gu⟩,Cb⟩:=eN _ qi;have zG:gQ ws:=fun a h=>eN a (qj _ h)
  let r1:=i9 r0 (ve (ts,b)) (cN1 tv) [.list [] M]
  show Gd _ _ r1 _;have R1:∀u M,Tt Z v [] u M→∀m,Gd (dR n) aI (ja r1 ((.ret u,m),[.list [] M])) P:=fun u M t m=>iy hr u [.list [] M] fun m=>dH t z;refine ig aB.v (fun _=>cN2 tv (.lst (ts.map aB.v)) (Tree.v d b)) (fun M:List V=>[.list [] M]) (fun ts M=>Tt Z v (fQ (Tree.rd d) none o b ws ts).1 (fQ (Tree.rd d) none o b ws ts).2.v M∧∀t∈ts,t.ok) ⟨t,gu⟩ (fun c cg M t P AH hr=> ?_) fun M t=>jG AJ M ⟨t.1,zG⟩;obtain⟨t,gu⟩:=t;have sZ:=gu c qi;have gu:∀t∈cg,t.ok:=fun a h=>gu a (qj _ h)
  let r2:=i9 r1 c.v (cN2 tv (.lst (ts.map aB.v)) (Tree.v d b)) [.list [] M]
  show Gd _ _ r2 _;induction e:c.rd using qn with
  |mk m a=>
   induction a using dK.casesOn with
   |raise y=>
    rw[yV e]at t;exact bS (.fW c) (3*d+18) (AS hn) (SE d) sZ z (AR e) (d9 t) fun t=>iy hr (dK.raise y).v [.list [] (M++m.map Mark.v)] (R1 _ _ t)
   |vals xs=>
    rw[AN e]at t;refine bS (.fW c) (3*d+18) (AS hn) (SE d) sZ z (AR e) t fun t=> ?_
    let r3:=mH r2 (dK.vals xs).v (M++m.map Mark.v)
    show Gd _ _ r3 _;have R2:∀u M,Tt Z v [] u M→∀m,Gd (dR n) aI (ja r3 ((.ret u,m),[.list [] M])) P:=fun u M t m=>iy hr u [.list [] M] (R1 u M t);refine ig Val.v (fun _=>SH tv (.lst (ts.map aB.v)) (Tree.v d b) c.v (dK.vals xs).v) (fun M:List V=>[.list [] M]) (fun xs M=>Tt Z v (c7 (Tree.rd d) none o b ws cg xs).1 (c7 (Tree.rd d) none o b ws cg xs).2.v M) t (fun y ys M t P SI hr=> ?_) fun M t=>jG AH M ⟨t,gu⟩;rw[lX]at t;have hit:Tt Z v (Tree.rd d b).1 (Tree.rd d b).2.v M→SA (i9 r3 y.v (SH tv (.lst (ts.map aB.v)) (Tree.v d b) c.v (dK.vals xs).v) [.list [] M])=some (True,3*d+18,1210,[Tree.v d b,.loc 0],some ([],M))→
     vd (fun _=>[]) (mH (i9 r3 y.v (SH tv (.lst (ts.map aB.v)) (Tree.v d b) c.v (dK.vals xs).v) [.list [] M]) (Tree.rd d b).2.v (M++(Tree.rd d b).1.map Mark.v))=some (True,.ret (Tree.rd d b).2.v,[],[.list [] (M++(Tree.rd d b).1.map Mark.v)])→Gd (dR n) aI (i9 r3 y.v (SH tv (.lst (ts.map aB.v)) (Tree.v d b) c.v (dK.vals xs).v) [.list [] M]) P:=
     fun t h h2=>bS (.tree d b) (3*d+18) hn (vh d) Cb z rfl (d9 t) (fun t=>iy hr _ _ (R2 _ _ t) h2) h
    induction y using Val.casesOn with
    |none=>exact jG SI M t
    |int i=>exact hit t kr kr
    |bool b=>induction b using qd with
     |true=>exact hit t kr kr
     |false=>exact jG SI M t
 ·induction o using qe with
  |none=>exact dH t.1 z
  |some a=>exact bS (.tree d a) (3*d+18) hn (vh d) Fv z rfl (d9 t.1) fun t=>dH t z
noncomputable def cS1(tv x u:V):ai:=[("tree",tv),("marks",V.loc 0),("subject",x),("has_subject",V.bool true),("way",u)]
noncomputable def cS2(tv x ts b u:V):ai:=[("tree",tv),("marks",V.loc 0),("subject",x),("has_subject",V.bool true),("way",u),("tests",ts),("body",b)]
noncomputable def W5(tv x ts b c u:V):ai:=[("tree",tv),("marks",V.loc 0),("subject",x),("has_subject",V.bool true),("way",u),("tests",ts),("body",b),("check",c)]
theorem Qp(hn:3+d<n)(s:Tree d)(ws:List (List aB×Tree d))(o:Option (Tree d))(jH:Tree.ok d s)(ok:gQ ws)(Fv:oX (Tree.ok d) o)(z:uE Z v)(t:Tt Z v (dh (Tree.rd d s) fun x=>fc (Tree.rd d) (some x) o ws).1 (dh (Tree.rd d s) fun x=>fc (Tree.rd d) (some x) o ws).2.v mk):
  Gd (dR n) aI (nS p w K n (3*d+19) iL [Tree.v (d+1) (pH d (.jT (some s) ws o))] mk) (w6 Z v):=by
 have hx:=(mJ jH).w.w
 let tv:=Tree.v (d+1) (pH d (.jT (some s) ws o))
 let r:=nS p w K n (3*d+19) iL [tv] mk
 show Gd _ _ r _;induction e:Tree.rd d s using qn with
 |mk m0 a=>
 rw[e]at t hx;induction a using bu.casesOn with
 |raise y=>exact bS (.tree d s) (3*d+18) hn (vh d) jH z (pJ e) (d9 t) fun t=>dH t z
 |val x=>
 refine bS (.tree d s) (3*d+18) hn (vh d) jH z (pJ e) t fun t=> ?_
 let r0:=mH r (bu.val x).v (mk++m0.map Mark.v)
 show Gd _ _ r0 _;refine ig ve (fun s:List V×V=>cS1 tv x.v s.2) (fun s=>[.list [] s.1]) (fun b s=>Tt Z v (fc (Tree.rd d) (some x) o b).1 (fc (Tree.rd d) (some x) o b).2.v s.1∧gQ b) (s0:=(_,(bu.val x).v)) ⟨t,ok⟩ (fun q ws s t P AJ hr=> ?_) fun s t=> ?_
 ·obtain⟨ts,b⟩:=q;obtain⟨M,u⟩:=s;obtain⟨t,eN⟩:=t;obtain⟨⟨_,gu⟩,Cb⟩:=eN _ qi;have zG:gQ ws:=fun a h=>eN a (qj _ h)
  let r1:=i9 r0 (ve (ts,b)) (cS1 tv x.v u) [.list [] M]
  show Gd _ _ r1 _;have R1:∀u M,Tt Z v [] u M→∀m,Gd (dR n) aI (ja r1 ((.ret u,m),[.list [] M])) P:=fun u M t m=>iy hr u [.list [] M] fun m=>dH t z;refine ig aB.v (fun s:List V×V=>cS2 tv x.v (.lst (ts.map aB.v)) (Tree.v d b) s.2) (fun s=>[.list [] s.1]) (fun ts s=>Tt Z v (fQ (Tree.rd d) (some x) o b ws ts).1 (fQ (Tree.rd d) (some x) o b ws ts).2.v s.1∧∀t∈ts,t.ok) (s0:=(M,u)) ⟨t,gu⟩ (fun c cg s t P AH hr=> ?_) fun s t=>jG AJ s ⟨t.1,zG⟩;obtain⟨M,u⟩:=s;obtain⟨t,gu⟩:=t;have sZ:=gu c qi;have gu:∀t∈cg,t.ok:=fun a h=>gu a (qj _ h)
  let r2:=i9 r1 c.v (cS2 tv x.v (.lst (ts.map aB.v)) (Tree.v d b) u) [.list [] M]
  show Gd _ _ r2 _;induction e:c.rd using qn with
  |mk m a=>
   induction a using dK.casesOn with
   |raise y=>
    rw[yV e]at t;exact bS (.fW c) (3*d+18) (AS hn) (SE d) sZ z (AR e) (d9 t) fun t=>iy hr (dK.raise y).v [.list [] (M++m.map Mark.v)] (R1 _ _ t)
   |vals xs=>
    rw[AN e]at t;refine bS (.fW c) (3*d+18) (AS hn) (SE d) sZ z (AR e) t fun t=> ?_
    let r3:=mH r2 (dK.vals xs).v (M++m.map Mark.v)
    show Gd _ _ r3 _;have R2:∀u M,Tt Z v [] u M→∀m,Gd (dR n) aI (ja r3 ((.ret u,m),[.list [] M])) P:=fun u M t m=>iy hr u [.list [] M] (R1 u M t);refine ig Val.v (fun _=>W5 tv x.v (.lst (ts.map aB.v)) (Tree.v d b) c.v (dK.vals xs).v) (fun M:List V=>[.list [] M]) (fun xs M=>Tt Z v (c7 (Tree.rd d) (some x) o b ws cg xs).1 (c7 (Tree.rd d) (some x) o b ws cg xs).2.v M∧∀y∈xs,y.ok) ⟨t,(Ng sZ e).2⟩ (fun y ys M t P SI hr=> ?_) fun M t=>jG AH (M,(dK.vals xs).v) ⟨t.1,gu⟩;obtain⟨t,Ib⟩:=t;have abc:∀a∈ys,a.ok:=fun a h=>Ib a (qj _ h);rw[lX,show wX (some x) y=([.asked y x],cL y x)from rfl]at t
    let r4:=i9 r3 y.v (W5 tv x.v (.lst (ts.map aB.v)) (Tree.v d b) c.v (dK.vals xs).v) [.list [] M]
    show Gd _ _ r4 _;have oa:(cR.asked y x).out=([.asked y x],(cL y x).v):=rfl;have Ib:=Ib y qi;generalize cL y x=a at t oa;have hit:∀a,Tt Z v ([.asked y x]++(Tree.rd d b).1) (Tree.rd d b).2.v M→(cR.asked y x).out=([.asked y x],a)→SA (mH r4 a (M++[Mark.asked y x].map Mark.v))=some (True,3*d+18,1210,[Tree.v d b,.loc 0],some ([],M++[Mark.asked y x].map Mark.v))→
     vd (fun _=>[]) (mH (mH r4 a (M++[Mark.asked y x].map Mark.v)) (Tree.rd d b).2.v ((M++[Mark.asked y x].map Mark.v)++(Tree.rd d b).1.map Mark.v))=some (True,.ret (Tree.rd d b).2.v,[],[.list [] ((M++[Mark.asked y x].map Mark.v)++(Tree.rd d b).1.map Mark.v)])→Gd (dR n) aI r4 P:=
     fun a t oa h h2=>bS (.asked y x) (3*d+18) (qI hn) (SG d) ⟨Ib,hx⟩ z oa t fun t=>bS (.tree d b) (3*d+18) hn (vh d) Cb z rfl (d9 t) (fun t=>iy hr _ _ (R2 _ _ t) h2) h
    have miss:∀a,Tt Z v ([.asked y x]++(c7 (Tree.rd d) (some x) o b ws cg ys).1) (c7 (Tree.rd d) (some x) o b ws cg ys).2.v M→(cR.asked y x).out=([.asked y x],a)→vd (lF r3) (mH r4 a (M++[Mark.asked y x].map Mark.v))=some (True,.next,W5 tv x.v (.lst (ts.map aB.v)) (Tree.v d b) c.v (dK.vals xs).v,[.list [] (M++[Mark.asked y x].map Mark.v)])→Gd (dR n) aI r4 P:=
     fun a t oa h=>bS (.asked y x) (3*d+18) (qI hn) (SG d) ⟨Ib,hx⟩ z oa t fun t=>jG SI _ ⟨t,abc⟩ h
    induction a using bu.casesOn with
    |raise f=>exact bS (.asked y x) (3*d+18) (qI hn) (SG d) ⟨Ib,hx⟩ z oa (d9 t) fun t=>iy hr (bu.raise f).v [.list [] (M++[Mark.asked y x].map Mark.v)] (R2 _ _ t)
    |val a=>induction a using Val.casesOn with
     |none=>exact miss _ t oa kr
     |int i=>exact hit _ t oa kr kr
     |bool b=>induction b using qd with
      |true=>exact hit _ t oa kr kr
      |false=>exact miss _ t oa kr
 ·induction o using qe with
  |none=>exact dH t.1 z
  |some a=>exact bS (.tree d a) (3*d+18) hn (vh d) Fv z rfl (d9 t.1) fun t=>dH t z
end
theorem AU(ok:x.ok):(Str.ofString "NoMatchingPatternError "++eE x).length≤sizeLine:=
 of_decide_eq_true (m8 (f:=fun x=>decide ((Str.ofString "NoMatchingPatternError "++eE x).length≤sizeLine)) (g:=fun _=>true) kr ok)
theorem FH(ok:(Val.int i).ok):i.natAbs.log2+1≤1920:=by
 have h1:=Nat.log2_le_self i.natAbs;have h2:0≤i∧i≤8:=ok;lia
def FI(x:Val):Prop:=match x with
 |.int i=>i.natAbs.log2+1≤1920∧(Str.ofString "NoMatchingPatternError "++eE (.int i)).length≤sizeLine∧True
 |x=>(Str.ofString "NoMatchingPatternError "++eE x).length≤sizeLine∧True
theorem CZ(ok:x.ok):FI x:=by
 induction x using Val.casesOn with
 |int i=>exact⟨FH ok,AU ok,trivial⟩
 |_=>exact⟨AU ok,trivial⟩
section
variable{K:Frag}{Z:List V}
theorem rt(q:cK)(x:Val)(h:3+d<n):(cR.fits q x).rk<n:=by induction q using cK.casesOn<;>show _<n<;>simp only[cR.rk,cK.rk]<;>lia
theorem rA(q:cK)(x:Val):(cR.fits q x).dp≤3*d+18:=by induction q using cK.casesOn<;>first|exact qg 11 _|exact qg 14 _
theorem Nl(hn:3+d<n)(s:Tree d)(q:cK)(ok:Tree.ok d s∧q.ok)(z:uE Z v)(t:Tt Z v (dh (Tree.rd d s) (gM q)).1 (dh (Tree.rd d s) (gM q)).2.v mk):
  Gd (dR n) aI (nS p w K n (3*d+19) iL [Tree.v (d+1) (pH d (.j9 s q))] mk) (w6 Z v):=by
 have hx:=(mJ ok.1).w.w;induction e:Tree.rd d s using qn with
 |mk m a=>
 rw[e]at t hx;induction a using bu.casesOn with
 |raise y=>exact bS (.tree d s) (3*d+19) hn (Ca d) ok.1 z (pJ e) (d9 t) fun t=>dH t z
 |val x=>
 replace t:Tt Z v (m++(gM q x).1) (gM q x).2.v mk:=t;refine bS (.tree d s) (3*d+19) hn (Ca d) ok.1 z (pJ e) t fun t=> ?_;induction f:q.fits x using qn with
 |mk m2 a=>
 unfold gM at t;rw[f]at t;induction a using ff.casesOn with
 |raise y=>exact bS (.fits q x) (3*d+18) (rt q x hn) (rA q x) ⟨ok.2,hx⟩ z (nT f) (d9 t) fun t=>dH t z
 |val b=>exact bS (.fits q x) (3*d+18) (rt q x hn) (rA q x) ⟨ok.2,hx⟩ z (nT f) (d9 t) fun t=>dH t z
theorem Nm(hn:3+d<n)(s:Tree d)(q:cK)(ok:Tree.ok d s∧q.ok)(z:uE Z v)(t:Tt Z v (dh (Tree.rd d s) (eg q)).1 (dh (Tree.rd d s) (eg q)).2.v mk):
  Gd (dR n) aI (nS p w K n (3*d+19) iL [Tree.v (d+1) (pH d (.jE s q))] mk) (w6 Z v):=by
 have hx:=(mJ ok.1).w.w
 let r:=nS p w K n (3*d+19) iL [Tree.v (d+1) (pH d (.jE s q))] mk
 show Gd _ _ r _;induction e:Tree.rd d s using qn with
 |mk m a=>
 rw[e]at t hx;induction a using bu.casesOn with
 |raise y=>exact bS (.tree d s) (3*d+19) hn (Ca d) ok.1 z (pJ e) (d9 t) fun t=>dH t z
 |val x=>
 replace t:Tt Z v (m++(eg q x).1) (eg q x).2.v mk:=t;refine bS (.tree d s) (3*d+19) hn (Ca d) ok.1 z (pJ e) t fun t=> ?_
 let M:=mk++m.map Mark.v
 induction f:q.fits x using qn with
 |mk m2 a=>
 unfold eg at t;rw[f]at t;induction a using ff.casesOn with
 |raise y=>exact bS (.fits q x) (3*d+18) (rt q x hn) (rA q x) ⟨ok.2,hx⟩ z (nT f) (d9 t) fun t=>dH t z
 |val b=>induction b using qd with
  |true=>exact bS (.fits q x) (3*d+18) (rt q x hn) (rA q x) ⟨ok.2,hx⟩ z (nT f) (d9 t) fun t=>dH t z
  |false=>
   have key:jI.map (fun x=>yU (mH (mH r (bu.val x).v M) (ff.val false).v (M++m2.map Mark.v)))=jI.map fun x=>some (FI x,(bu.raise (jF x)).v,some (AO.list [] (M++m2.map Mark.v))):=kr;exact bS (.fits q x) (3*d+18) (rt q x hn) (rA q x) ⟨ok.2,hx⟩ z (nT f) (d9 t) fun t=>rq t z (CZ hx) (m8 key hx)
end
section
variable{K:Frag}{Z:List V}{v:V}
theorem UG(e:dM i=a):(cR.guard i).out=([.guard i],a.v):=congrArg (fun w:bu=>([Mark.guard i],w.v)) e
theorem Tt.asc(t:Tt Z v (a++b++c) u M):Tt Z v (a++(b++c)) u M:=List.append_assoc a b c▸t
noncomputable def W6(tv x:V):ai:=[("tree",tv),("value",x),("marks",.loc 0)]
theorem Nn(hn:3+d<n)(s:Tree d)(as:List (cK×Option Int×Tree d))(o:Option (Tree d))(jH:Tree.ok d s)(ok:oO as)(Fv:oX (Tree.ok d) o)(z:uE Z v)(t:Tt Z v (dh (Tree.rd d s) fun x=>cI (Tree.rd d) x o as).1 (dh (Tree.rd d s) fun x=>cI (Tree.rd d) x o as).2.v mk):
  Gd (dR n) aI (nS p w K n (3*d+19) iL [Tree.v (d+1) (pH d (.jD s as o))] mk) (w6 Z v):=by
 have hx:=(mJ jH).w.w
 let tv:=Tree.v (d+1) (pH d (.jD s as o))
 let r:=nS p w K n (3*d+19) iL [tv] mk
 show Gd _ _ r _;induction e:Tree.rd d s using qn with
 |mk m0 a=>
 rw[e]at t hx;induction a using bu.casesOn with
 |raise y=>exact bS (.tree d s) (3*d+19) hn (Ca d) jH z (pJ e) (d9 t) fun t=>dH t z
 |val x=>
 refine bS (.tree d s) (3*d+19) hn (Ca d) jH z (pJ e) t fun t=> ?_
 let r0:=mH r (bu.val x).v (mk++m0.map Mark.v)
 show Gd _ _ r0 _;refine ig tX (fun _=>W6 tv x.v) (fun M:List V=>[.list [] M]) (fun b M=>Tt Z v (cI (Tree.rd d) x o b).1 (cI (Tree.rd d) x o b).2.v M∧oO b) ⟨t,ok⟩ (fun q as M t P AJ hr=> ?_) fun M t=> ?_
 ·obtain⟨q,g,b⟩:=q;obtain⟨t,eN⟩:=t;obtain⟨HW,Np,Cb⟩:=eN _ qi;have zG:oO as:=fun a h=>eN a (qj _ h)
  let r1:=i9 r0 (tX (q,g,b)) (W6 tv x.v) [.list [] M]
  show Gd _ _ r1 _;have R1:∀u M,Tt Z v [] u M→∀m,Gd (dR n) aI (ja r0 ((.ret u,m),[.list [] M])) (w6 Z v):=fun u M t m=>dH t z;have F:∀{m:List Mark} {a:ff} {ms:List Mark} {u:V},q.fits x=(m,a)→Tt Z v (m++ms) u M→(Tt Z v ms u (M++m.map Mark.v)→Gd (dR n) aI (mH r1 a.v (M++m.map Mark.v)) P)→Gd (dR n) aI r1 P:=fun f t h=>bS (.fits q x) (3*d+18) (rt q x hn) (rA q x) ⟨HW,hx⟩ z (nT f) t h;rw[cI.eq_2]at t;induction f:q.fits x using qn with
  |mk m a=>
   rw[f]at t;induction a using ff.casesOn with
   |raise y=>exact F f (d9 t) fun t=>iy hr (ff.raise y).v [.list [] (M++m.map Mark.v)] (R1 _ _ t)
   |val c=>induction c using qd with
    |false=>induction g using qe<;>exact F f t fun t=>jG AJ _ ⟨t,zG⟩
    |true=>induction g using qe with
     |none=>exact F f t fun t=>bS (.tree d b) (3*d+18) hn (vh d) Cb z rfl (d9 t) fun t=>iy hr (Tree.rd d b).2.v [.list [] ((M++m.map Mark.v)++(Tree.rd d b).1.map Mark.v)] (R1 _ _ t)
     |some i=>
      have t:Tt Z v (match dM i with
       |.raise z=>(m++[.guard i],.raise z)
       |.val Nj=>if Nj.holds=true then after (m++[.guard i]) (Tree.rd d b)else after (m++[.guard i]) (cI (Tree.rd d) x o as):Rd).1 (match dM i with
       |.raise z=>(m++[.guard i],.raise z)
       |.val Nj=>if Nj.holds=true then after (m++[.guard i]) (Tree.rd d b)else after (m++[.guard i]) (cI (Tree.rd d) x o as):Rd).2.v M:=t
      let r2:=mH r1 (ff.val true).v (M++m.map Mark.v)
      have A:∀{a:bu} {ms:List Mark} {u:V},dM i=a→Tt Z v (m++([.guard i]++ms)) u M→(Tt Z v ms u (M++m.map Mark.v++[Mark.guard i].map Mark.v)→Gd (dR n) aI (mH r2 a.v (M++m.map Mark.v++[Mark.guard i].map Mark.v)) P)→Gd (dR n) aI r1 P:=
       fun f2 t h=>F f t fun t=>bS (.guard i) (3*d+18) (qI hn) (SG d) Np z (UG f2) t h
      have hit:∀a,dM i=a→Tt Z v (m++[.guard i]++(Tree.rd d b).1) (Tree.rd d b).2.v M→SA (mH r2 a.v (M++m.map Mark.v++[Mark.guard i].map Mark.v))=some (True,3*d+18,1210,[Tree.v d b,.loc 0],some ([],M++m.map Mark.v++[Mark.guard i].map Mark.v))→
       vd (fun _=>[]) (mH (mH r2 a.v (M++m.map Mark.v++[Mark.guard i].map Mark.v)) (Tree.rd d b).2.v ((M++m.map Mark.v++[Mark.guard i].map Mark.v)++(Tree.rd d b).1.map Mark.v))=some (True,.ret (Tree.rd d b).2.v,[],[.list [] ((M++m.map Mark.v++[Mark.guard i].map Mark.v)++(Tree.rd d b).1.map Mark.v)])→Gd (dR n) aI r1 P:=
       fun a f2 t h h2=>A f2 t.asc fun t=>bS (.tree d b) (3*d+18) hn (vh d) Cb z rfl (d9 t) (fun t=>iy hr _ _ (R1 _ _ t) h2) h
      induction f2:dM i using bu.casesOn with
      |raise y=>rw[f2]at t;exact A f2 (d9 t).asc fun t=>iy hr (bu.raise y).v [.list [] (M++m.map Mark.v++[Mark.guard i].map Mark.v)] (R1 _ _ t)
      |val y=>
       rw[f2]at t;induction y using Val.casesOn with
       |none=>exact A f2 (Tt.asc t) fun t=>jG AJ _ ⟨t,zG⟩
       |int j=>exact hit _ f2 t kr kr
       |bool c=>induction c using qd with
        |true=>exact hit _ f2 t kr kr
        |false=>exact A f2 (Tt.asc t) fun t=>jG AJ _ ⟨t,zG⟩
 ·induction o using qe with
  |none=>
   have key:jI.map (fun x=>yU (ja (mH r (bu.val x).v (mk++m0.map Mark.v)) ((.next,W6 tv x.v),[.list [] M])))=jI.map fun x=>some (FI x,(bu.raise (jF x)).v,some (AO.list [] M)):=kr;exact rq t.1 z (CZ hx) (m8 key hx)
  |some a=>exact bS (.tree d a) (3*d+18) hn (vh d) Fv z rfl (d9 t.1) fun t=>dH t z
end
theorem Nq{x:cR}:Tt (x.all mk) x.val x.marks x.val mk:=⟨rfl,rfl⟩
theorem Zu{K:Frag}{n d:Nat}{t:Tr (Tree d)}(hn:3+d<n)(ok:Tr.ok (Tree.ok d) t):AL p w K n (3*d+19) iL (.tree (d+1) (pH d t)):=fun mk z=>by
 induction t using Tr.casesOn with
 |leaf l=>exact B6 (k:=3*d+12) l mk z
 |jT s ws o=>induction s using qe with
  |none=>exact Qo hn ws o ok.2.1.2 ok.2.2 z Nq
  |some s=>exact Qp hn s ws o ok.1 ok.2.1.2 ok.2.2 z Nq
 |jD s as o=>exact Nn hn s as o ok.1 ok.2.1.2 ok.2.2 z Nq
 |j9 s q=>exact Nl hn s q ok z Nq
 |jE s q=>exact Nm hn s q ok z Nq
theorem W7{K:Frag}{n:Nat}(x:cR)(hr:x.rk≤n)(ok:x.ok):∃(k:Nat) (fd:FuncData),k+1≤x.dp∧oh x.fn (az p w K n).tab.fns=some (fd,[])∧AL p w K n k fd x:=by
 induction x using cR.casesOn with
 |leaf l=>exact⟨7,iL,qf 8,kr,B6 (k:=0) l⟩
 |asked a b=>exact⟨7,AD,qf 8,kr,Qi (k:=0) a b ok.1 ok.2⟩
 |guard i=>exact⟨7,wN,qf 8,kr,Qj (k:=0) i ok⟩
 |fW t=>exact⟨10,E7,qf 11,kr,Nb (k:=0) hr t ok⟩
 |fits q x=>
  induction q using cK.casesOn with
  |bind m=>exact⟨10,pG,qf 11,kr,Fy (k:=0) m x⟩
  |lit l=>exact⟨10,pG,qf 11,kr,GY (k:=0) hr l x ok.1 ok.2⟩
  |alt ls=>exact⟨13,pG,qf 14,kr,GZ (k:=0) hr ls x ok.1.2 ok.2⟩
 |tree d t=>
  induction d using qk with
  |zero=>exact⟨7,iL,qg 8 9,kr,B6 (k:=0) t⟩
  |succ d=>
   exact⟨3*d+19,iL,qf _,kr,Zu (t:=t) hr ok⟩
theorem vj(h:aJ a=true):bB [a]=true:=dg h rfl
theorem FJ(h:aJ a=true)(h2:aJ b=true):bB [a,b]=true:=dg h (dg h2 rfl)
theorem G0(x:cR):bB x.args=true:=by
 induction x using cR.casesOn with
 |leaf l=>exact vj (gf l)
 |asked a b=>exact FJ (bO a) (bO b)
 |fW t=>exact vj (mF t)
 |fits q x=>exact FJ (lV q) (bO x)
 |tree d t=>exact vj (fN d t)
 |guard i=>exact rfl
theorem vU(x:cR):aJ x.val=true:=by
 induction x using cR.casesOn with
 |leaf l=>exact lW _
 |asked a b=>exact lW _
 |fW t=>show aJ t.rd.2.v=true;induction t.rd.2 using dK.casesOn with
  |raise z=>exact lW (.raise z)
  |vals xs=>exact lU (jd _) (MV _)
 |fits q x=>show aJ (q.fits x).2.v=true;induction(q.fits x).2 using ff.casesOn with
  |raise z=>exact lW (.raise z)
  |val b=>kernel_rfl
 |tree d t=>exact lW _
 |guard i=>exact lW _
def Zv(x:Val)(p:V×St):Prop:=∀af:Nat→Addr,(∀k,k<p.2.length→af k≠sysModules)→∃v',Fz af 0 p.2 false p.1 v'∧aJ v'=true∧v'=.str (eE x)
theorem UH{K:Frag}{n:Nat}{x:Val}(ok:x.ok):Gd (dR n) aI (fV (cX (az p w K n) 60) 7 DB [.int 6] [] [x.v] []) (Zv x):=by
 have key:jI.map (fun x=>(zD (vw (fV (cX (az p w K n) 60) 7 DB [.int 6] [] [x.v] []))).map fun q=>(q.1,q.2.1))=jI.map fun x=>some ((match x with|.int i=>i.natAbs.log2+1≤1920∧True|_=>True),.str (eE x)):=kr;obtain⟨⟨q,v,st⟩,e,h⟩:=Option.map_eq_some_iff.mp (m8 key ok);injection h with h1 h2;refine oY (fun af _=>⟨_,.closed (h2▸jd _),h2▸jd _,h2⟩) (h1▸ ?_) (rj e);induction x using Val.casesOn with
 |int i=>exact⟨FH ok,trivial⟩
 |_=>exact trivial
theorem yg(p:Program)(w:World)(K:Frag)(n:Nat):Kept (az p w K n):=by
 induction n with
 |zero=>
  refine oR fun d a A I σ st s E args ys Q W ha H r hp hk=> ?_;rcases hp with⟨x,l,mk,hr,_⟩|⟨hr,_⟩<;>exact absurd hr (qr _)
 |succ n ih=>
  refine oR fun d a A I σ st s E args ys Q W ha H r hp hk=> ?_;have Sd:=eY ih 60;rcases hp with⟨x,l,mk,hr,rfl,rfl,hd,ok,e,hm,hw⟩|⟨hr,x,ok,rfl,rfl,hd,hw⟩
  ·obtain⟨k,fd,hk1,hf,g⟩:=W7 (p:=p) (w:=w) (K:=K) x (qM hr) ok;refine Qh (cx:=az p w K n) (fd:=(fd,[])) (W:=fun v' o'=>v'=x.val∧o'=.list [] (x.all mk)) Sd hf (H.to (qy hk1 hd)) (listAt_eq e) (tZ hm.1) (G0 x) r (Good.mono (fun q hq af=> ?_) (g mk ⟨hm,vU x⟩).out) fun v' o' w=>w.1▸w.2▸hk _ _ hw;exact⟨x.val,_,(hq af).1,(hq af).2,vU x,hm.1,rfl,rfl⟩
  ·exact HX (cx:=az p w K n) (fd:=(DB,[.int 6])) (W:=fun v'=>v'=.str (eE x)) Sd kr (H.to hd) (vj (bO x)) r (UH ok).out fun v' e=>by rw[e];exact hk _ _ hw
section
noncomputable def nU(c:Nat):AO→Bool
 |.inst _ d=>Nat.blt d c
 |.list _ vs=>uU c vs
 |.dict fs=>pS c fs
theorem FN(li:f7 I I')(ls:∀k,k<c→af k=σ k)(hm:c≤m)(h:dw I P σ n o x)(e:nU c o=true):dw I' P af m o x:=by
 induction h using dw.casesOn with
 |inst C d hd=>
  have hk:d<c:=Nat.blt_eq.mp e;rw[←ls d hk];exact .inst C d (by exact qz ‹_› ‹_›)
 |list ep hp r=>exact .list ep hp (Ef li ls hm r e)
 |dict ep r=>exact .dict ep (Eg li ls hm r e)
end
mutual
inductive Fw (c:Nat) (aD:List Nat) (z:Nat→Prop) (σ:Nat→Addr) (st:St):Bool→V→V→Prop
 |closed {m:Bool} {v:V} (h:aJ v=true):Fw c aD z σ st m v v
 |fix {v:V} (h:kF c v=true):Fw c aD z σ st false v v
 |loc {j k:Nat} (h:aD[j]? =some k):Fw c aD z σ st false (.loc k) (.loc j)
 |num {m:Bool} (i:Int):Fw c aD z σ st m (.num i) (.int i)
 |Nr {m:Bool} (i:Int):Fw c aD z σ st m (.int i) (.num i)
 |nG {m:Bool} (b:Bool):Fw c aD z σ st m (.nG b) (.bool b)
 |aL {m:Bool} (k:Nat):Fw c aD z σ st m (.loc k) (.aL (.ref (σ k)))
 |tup {m:Bool} {vs ws:List V} (h:yX c aD z σ st m vs ws):Fw c aD z σ st m (.tup vs) (.tup ws)
 |lst {m:Bool} {k:Nat} {vs ws:List V} (hk:z k) (e:st[k]? =some (.list [] vs)) (h:yX c aD z σ st true vs ws):Fw c aD z σ st m (.loc k) (.lst ws)
 |inst {m:Bool} {k d:Nat} {C:Addr} {fs gs:ai} (hk:z k) (hd:z d) (e:st[k]? =some (.inst C d)) (e':st[d]? =some (.dict fs)) (h:mL c aD z σ st true fs gs):Fw c aD z σ st m (.loc k) (.inst C gs)
inductive yX (c:Nat) (aD:List Nat) (z:Nat→Prop) (σ:Nat→Addr) (st:St):Bool→List V→List V→Prop
 |nil {m:Bool}:yX c aD z σ st m [] []
 |cons {m:Bool} {v w:V} {vs ws:List V} (h:Fw c aD z σ st m v w) (r:yX c aD z σ st m vs ws):yX c aD z σ st m (v::vs) (w::ws)
inductive mL (c:Nat) (aD:List Nat) (z:Nat→Prop) (σ:Nat→Addr) (st:St):Bool→ai→ai→Prop
 |nil {m:Bool}:mL c aD z σ st m [] []
 |cons {m:Bool} {x:Str} {v w:V} {vs ws:ai} (h:Fw c aD z σ st m v w) (r:mL c aD z σ st m vs ws):mL c aD z σ st m ((x,v)::vs) ((x,w)::ws)
end
inductive mO (c:Nat) (aD:List Nat) (z:Nat→Prop) (σ:Nat→Addr) (st:St):AO→AO→Prop
 |fix {o:AO} (h:nU c o=true):mO c aD z σ st o o
 |inst (C:Addr) {d d':Nat} (h:aD[d']? =some d):mO c aD z σ st (.inst C d) (.inst C d')
 |list {pre:LV} {vs ws:List V} (h:yX c aD z σ st false vs ws):mO c aD z σ st (.list pre vs) (.list pre ws)
 |under {pre:LV} {k:Nat} {vs ws:List V} (hp:pre.length<100000) (h:yX c aD z σ st false vs ws):mO c aD z σ st (.list pre (.loc k::vs)) (.list (pre++[.ref (σ k)]) ws)
 |dict {fs gs:ai} (h:mL c aD z σ st false fs gs):mO c aD z σ st (.dict fs) (.dict gs)
structure nV (c:Nat) (aD:List Nat) (z:Nat→Prop) (σ:Nat→Addr) (st st':St):Prop where
 len:st'.length=aD.length
 vm:∀(k:Nat),k<c→aD[k]? =some k
 inj:∀(i j k:Nat),aD[i]? =some k→aD[j]? =some k→i=j
 lt:∀(j k:Nat),aD[j]? =some k→k<st.length∧¬z k
 at':∀(j k:Nat) (o o':AO),aD[j]? =some k→st[k]? =some o→st'[j]? =some o'→mO c aD z σ st o o'
open Classical in
noncomputable def c8(I:IM)(σ:Nat→Addr)(z:Nat→Prop)(n:Nat)(h:Heap):IM:=fun b=>match I b with
 |some o=>some o
 |none=>if∃k,z k∧k<n∧σ k=b then h.get? b else none
section
variable{P:Params}{aD:List Nat}{st:St}
theorem fT:f7 I (c8 I σ z n h):=fun b o e=>by unfold c8;rw[e]
theorem gS(e:c8 I σ z n h b=some o):I b=some o∨(I b=none∧h.get? b=some o∧∃k,z k∧k<n∧σ k=b):=by
 unfold c8 at e
 split at e
 ·rename_i o' q;rw[q];exact .inl e
 ·rename_i q
  split at e
  ·rename_i hk;exact .inr ⟨q,e,hk⟩
  ·exact nn e
open Classical in
theorem vn(r:cF P I σ st h)(hk:z k)(hl:k<st.length)(g:h.get? (σ k)=some o):c8 I σ z st.length h (σ k)=some o:=by
 unfold c8;rw[r.out k hl];show(if _ then _ else _)=_;rw[if_pos ⟨k,hk,hl,rfl⟩];exact g
noncomputable def dY(aD:List Nat)(σ:Nat→Addr):Nat→Addr:=fun j=>match aD[j]? with
 |some k=>σ k
 |none=>0
theorem eG(e:aD[j]? =some k):dY aD σ j=σ k:=by unfold dY;rw[e]
theorem Nt(hf:∀k,k<c→aD[k]? =some k):c≤aD.length:=by
 induction c using qk with
 |zero=>exact qm _
 |succ c=>exact(List.getElem?_eq_some_iff.mp (hf c (qF c))).1
theorem W8(r:cF P I σ st h)(hk:z k)(e:st[k]? =some (.list [] vs))(ih:∀ys,aG I P σ st.length vs ys→aG (c8 I σ z st.length h) P (lG true (dY aD σ)) (cnt true aD.length) ws ys)(hv:aq I P σ st.length (.loc k) y):
  aq (c8 I σ z st.length h) P (lG m (dY aD σ)) (cnt m aD.length) (.lst ws) y:=by
 have q:=uB r e hv;clear hv;induction q using vc.casesOn with
 |mk hl g q=>induction q using j7.casesOn with|mk ep hp rr=>exact .lst (vn r hk hl g) (ih _ rr)
theorem UI(r:cF P I σ st h)(hk:z k)(hd:z d)(e:st[k]? =some (.inst C d))(e':st[d]? =some (.dict fs))(ih:∀ys,bF I P σ st.length fs ys→bF (c8 I σ z st.length h) P (lG true (dY aD σ)) (cnt true aD.length) gs ys)
  (hv:aq I P σ st.length (.loc k) y):aq (c8 I σ z st.length h) P (lG m (dY aD σ)) (cnt m aD.length) (.inst C gs) y:=by
 have q:=uB r e hv;clear hv;induction q using vc.casesOn with
 |mk hl g q=>induction q using rI.casesOn with
  |mk LL=>
   obtain⟨WM,g',AG⟩:=r.cells d _ e';have q':=AG.inv;clear AG;induction q' using kW.casesOn with|mk ep rr=>exact .inst (vn r hk hl g) (vn r hd LL g') (ih _ rr)
theorem FO(r:cF P I σ st h)(hf:∀k,k<c→aD[k]? =some k)(f:Fw c aD z σ st m v w)(hv:aq I P σ st.length v y):aq (c8 I σ z st.length h) P (lG m (dY aD σ)) (cnt m aD.length) w y:=
 Fw.rec (motive_1:=fun m v w _=>∀y,aq I P σ st.length v y→aq (c8 I σ z st.length h) P (lG m (dY aD σ)) (cnt m aD.length) w y)
  (motive_2:=fun m vs ws _=>∀y,aG I P σ st.length vs y→aG (c8 I σ z st.length h) P (lG m (dY aD σ)) (cnt m aD.length) ws y)
  (motive_3:=fun m vs ws _=>∀y,bF I P σ st.length vs y→bF (c8 I σ z st.length h) P (lG m (dY aD σ)) (cnt m aD.length) ws y)
  (fun q y hv=>((ki hv q).mono (Le.zero fT)).toM _) (fun q y hv=>oJ fT (fun k hk=>eG (hf k hk)) (Nt hf) hv q)
  (fun q y hv=>(by obtain⟨_⟩:=hv.inv;exact eG (σ:=σ) q▸.loc (σ:=dY aD σ) _ (List.getElem?_eq_some_iff.mp q).1))
  (fun i y hv=>(by obtain⟨_⟩:=hv.inv;exact .int _ _)) (fun i y hv=>(by obtain⟨_⟩:=hv.inv;exact .num _ _)) (fun b y hv=>(hv.inv:y=_)▸.bool _) (fun k y hv=>(by obtain⟨_⟩:=hv.inv;exact .aL _))
  (fun _ ih y hv=>(by obtain⟨g,rr⟩:=hv.inv;exact .tup (fT _ _ g) (ih _ rr)))
  (fun hk e _ ih y hv=>W8 r hk e ih hv) (fun hk hd e e' _ ih y hv=>UI r hk hd e e' ih hv)
  (fun y hv=>(hv.inv:y=_)▸.nil) (fun _ _ h1 h2 y hv=>(by obtain⟨hx,hr⟩:=hv.inv;exact .cons (h1 _ hx) (h2 _ hr)))
  (fun y hv=>(hv.inv:y=_)▸.nil) (fun _ _ h1 h2 y hv=>(by obtain⟨hx,hr⟩:=hv.inv;exact .cons (h1 _ hx) (h2 _ hr))) f y hv
theorem Ie(r:cF P I σ st h)(hf:∀k,k<c→aD[k]? =some k):∀{ws:List V} {ys:LV},yX c aD z σ st m vs ws→aG I P σ st.length vs ys→aG (c8 I σ z st.length h) P (lG m (dY aD σ)) (cnt m aD.length) ws ys:=by
 induction vs with
 |nil=>intro ws ys f hv;cases f;replace hv:=hv.inv;cases hv;exact .nil
 |cons v vs ih=>intro ws ys f hv;cases f with|cons q qs=>replace hv:=hv.inv;cases hv with|mk hx hr=>exact .cons (FO r hf q hx) (ih qs hr)
theorem UJ(r:cF P I σ st h)(hf:∀k,k<c→aD[k]? =some k):∀{ws:List (Str×V)} {ys:List DictEntry},mL c aD z σ st m vs ws→bF I P σ st.length vs ys→bF (c8 I σ z st.length h) P (lG m (dY aD σ)) (cnt m aD.length) ws ys:=by
 induction vs with
 |nil=>intro ws ys f hv;cases f;replace hv:=hv.inv;cases hv;exact .nil
 |cons v vs ih=>intro ws ys f hv;cases f with|cons q qs=>replace hv:=hv.inv;cases hv with|mk hx hr=>exact .cons (FO r hf q hx) (ih qs hr)
theorem UK(r:cF P I σ st h)(hf:∀k,k<c→aD[k]? =some k)(f:mO c aD z σ st o o')(q:dw I P σ st.length o ob):dw (c8 I σ z st.length h) P (dY aD σ) aD.length o' ob:=by
 induction f using mO.casesOn with
 |fix e=>exact FN fT (fun k hk=>eG (hf k hk)) (Nt hf) q e
 | @inst C d d' e=>
  replace q:=q.inv;induction q using rI.casesOn
  rw[←eG (σ:=σ) e];exact .inst C d' (List.getElem?_eq_some_iff.mp e).1
 |list f=>
  replace q:=q.inv;induction q using j7.casesOn with|mk ep hp rr=>exact .list ep hp (Ie (m:=false) r hf f rr)
 | @under pre k vs ws hp f=>
  replace q:=q.inv;induction q using j7.casesOn with
  |mk ep hp' rr=>
   replace rr:=rr.inv;induction rr using dP.casesOn with
   |mk h1 rr=>
    replace h1:=h1.inv;induction h1 using iH.casesOn
    have key:=dw.list (I:=c8 I σ z st.length h) (P:=P) (σ:=dY aD σ) (n:=aD.length) (pre:=pre++[Value.ref (σ k)]) ep (by rw[List.length_append];exact hp) (Ie (m:=false) r hf f rr);rw[←List.append_cons]at key;exact key
 |dict f=>
  replace q:=q.inv;induction q using kW.casesOn with|mk ep rr=>exact .dict ep (UJ (m:=false) r hf f rr)
theorem cF.choose(r:cF P I σ st h)(f:nV c aD z σ st st'):cF P (c8 I σ z st.length h) (dY aD σ) st' h:=by
 have get:∀j,j<st'.length→∃k,aD[j]? =some k∧k<st.length∧¬z k:=fun j hj=>by
  have LQ:j<aD.length:=by rw[←f.len];exact hj
  exact⟨aD[j],qw LQ,f.lt j _ (qw LQ)⟩
 refine⟨fun b o e=> ?_,fun j o' e=> ?_,fun i j hi hj e=> ?_,fun j hj=> ?_⟩
 ·rcases gS e with q|⟨_,q,_⟩
  ·exact r.sub b o q
  ·exact q
 ·obtain⟨k,ek,hk,hz⟩:=get j (List.getElem?_eq_some_iff.mp e).1;have e0:st[k]? =some st[k]:=qw hk;obtain⟨ob,g,gC⟩:=r.cells k _ e0;rw[eG ek,f.len];exact⟨ob,g,UK r f.vm (f.at' j k _ _ ek e0 e) gC⟩
 ·obtain⟨k,ek,hk,_⟩:=get i hi;obtain⟨k',ek',nI,_⟩:=get j hj;rw[eG ek,eG ek']at e;have:=r.inj k k' hk nI e;subst this;exact f.inj i j k ek ek'
 ·obtain⟨k,ek,hk,hz⟩:=get j hj;rw[eG ek];induction q:c8 I σ z st.length h (σ k)using qe with
  |none=>rfl
  |some o=>
   rcases gS q with q|⟨_,_,k',hz',nI,e'⟩
   ·rw[r.out k hk]at q;exact nn q
   ·have:=r.inj k' k nI hk e';subst this;exact absurd hz' hz
end
inductive mw (c:Nat) (aD:List Nat) (z:Nat→Prop) (σ:Nat→Addr) (st:St):List Nat→St→Prop
 |nil:mw c aD z σ st [] []
 |cons {k:Nat} {ks:List Nat} {o o':AO} {os:St} (e:st[k]? =some o) (h:mO c aD z σ st o o') (r:mw c aD z σ st ks os):mw c aD z σ st (k::ks) (o'::os)
section
variable{st os:St}
theorem mw.len(h:mw c aD z σ st ks os):os.length=ks.length:=by
 induction h with
 |nil=>rfl
 |cons _ _ _ ih=>exact congrArg Nat.succ ih
theorem mw.at(h:mw c aD z σ st ks os):∀(i k:Nat),ks[i]? =some k→k<st.length∧∀o o',st[k]? =some o→os[i]? =some o'→mO c aD z σ st o o':=by
 induction h with
 |nil=>exact fun i k h=>nn h
 |cons e h r ih=>
  intro i k hk;induction i using qk with
  |zero=>obtain rfl:=qc hk;exact⟨(List.getElem?_eq_some_iff.mp e).1,fun o o' h2 h3=>by rw[e]at h2;cases h2;cases h3;exact h⟩
  |succ i=>exact ih i k hk
theorem mw.append(h:mw c aD z σ st ks os)(h2:mw c aD z σ st Nu os2):mw c aD z σ st (ks++Nu) (os++os2):=by
 induction h with
 |nil=>exact h2
 |cons e h _ ih=>exact .cons e h ih
noncomputable def W9(c:Nat)(ks zs:List Nat):Bool:=decide (ks.take c=List.range c)&&(ks.all (fun k=> !zs.contains k)&&decide ks.Nodup)
theorem xd(ok:W9 c ks zs=true)(h:mw c ks (· ∈zs) σ st ks os):nV c ks (· ∈zs) σ st os:=by
 unfold W9 at ok;simp only[Bool.and_eq_true,List.all_eq_true,decide_eq_true_eq,Bool.not_eq_true',List.contains_eq_mem,decide_eq_false_iff_not]at ok;obtain⟨k1,k2,k3⟩:=ok;refine⟨h.len,fun k hk=> ?_,fun i j k e1 e2=> ?_,fun j k e=>⟨(h.at j k e).1,k2 _ (qD e)⟩,fun j k o o' e=>(h.at j k e).2 o o'⟩
 ·rw[←List.getElem?_take_of_lt hk,k1,List.getElem?_range hk]
 ·exact(List.getElem?_inj (List.getElem?_eq_some_iff.mp e1).1 k3).mp (e1.trans e2.symm)
end
theorem yh:pS c m=true→lk x m=some v→kF c v=true:=by
 induction m with
 |nil=>exact fun _=>nn
 |cons p m ih=>exact fun h e=>jj e (fun _ e=>qc e▸(bk h).1) fun _ e=>ih (bk h).2 e
theorem av.choose(l:av P fe m env I σ n h)(hm:pS c m=true)(hf:fe.free=[])
  (fx:∀k,k<c→aD[k]? =some k)(lt:∀(j k:Nat),aD[j]? =some k→k<n):av P fe m env (c8 I σ z n h) (dY aD σ) aD.length h:=by
 have hc:c≤aD.length:=by
  induction c using qk with
  |zero=>exact qm _
  |succ c=>exact(List.getElem?_eq_some_iff.mp (fx c (qF c))).1
 have up:∀{v:V} {y:Value},kF c v=true→aq I P σ n v y→aq (c8 I σ z n h) P (dY aD σ) aD.length v y:=fun e r=>oJ fT (fun k hk=>eG (fx k hk)) hc r e;refine⟨l.scope,l.kind,l.glob,l.blt, ?_,fun x v e hk=> ?_,l.there,fun x v e=> ?_,fun b hb=>⟨?_,fun j hj=> ?_⟩,l.ne,l.inj⟩
 ·obtain⟨mm,h1,h2⟩:=l.ns;refine⟨mm,h1,fun x v e hk=> ?_⟩;obtain⟨y,e1,r⟩:=h2 x v e hk;exact⟨y,e1,up (yh hm e) r⟩
 ·obtain⟨d,y,h1,h2,r⟩:=l.cell x v e hk;exact⟨d,y,h1,h2,up (yh hm e) r⟩
 ·rw[hf]at e;exact nn e
 ·obtain⟨h1,h2⟩:=l.apart b hb;induction q:c8 I σ z n h b using qe with
  |none=>rfl
  |some o=>
   rcases gS q with q|⟨_,_,k,_,hk,e⟩
   ·rw[h1]at q;exact nn q
   ·exact absurd e (h2 k hk)
 ·have ej:aD[j]? =some aD[j]:=qw hj;rw[eG ej];exact(l.apart b hb).2 _ (lt j _ ej)
set_option genInjectivity false in
structure Lp where
 k:Nat
 A:Around
 fe:FE
 env:Env
 m:ai
 test:Expr
 body:List Stmt
 R:SP
 E:dS
noncomputable def q6(cx:Cx)(L:Lp):Nat→SP
 |0,_=>False
 |n+1,s=>wpAny cx.M L.A (isTrue L.test L.env (eval L.test L.env)) (fun b br=>(b=true→wpAny cx.M L.A (execs L.body L.env) (fun f jR=>f=.next∧q6 cx L n jR) L.E br)∧(b=false→L.R br)) L.E s
theorem C7:∀{n:Nat} {s:Shared},q6 cx L n s→q6 cx L (n+1) s
 |0,_,h=>h.elim
 |n+1,s,h=>wpAny_mono h (fun b br hb=>⟨fun e=>wpAny_mono (hb.1 e) (fun f jR hf=>⟨hf.1,C7 hf.2⟩) fun _ _ x=>x,hb.2⟩) fun _ _ x=>x
theorem UL(h:n≤n')(r:q6 cx L n s):q6 cx L n' s:=by
 induction h with
 |refl=>exact r
 |step _ ih=>exact C7 ih
set_option genInjectivity false in
structure Bs where
 X:Addr→Prop
 I:IM
 σ:Nat→Addr
 s:Shared
structure fJ (c:Nat) (B:Bs) (I:IM) (σ:Nat→Addr) (n:Nat) (s:Shared):Prop where
 i:f7 B.I I
 sg:∀k,k<c→σ k=B.σ k
 fresh:∀b o,I b=some o→B.I b=some o∨B.s.heap.get? b=none∨B.X b
 own:∀k,c≤k→k<n→B.X (σ k)∨B.s.heap.get? (σ k)=none
 keep:∀b o,B.s.heap.get? b=some o→¬B.X b→(∀k,k<c→B.σ k≠b)→s.heap.get? b=some o
 alive:∀b o,B.s.heap.get? b=some o→∃o',s.heap.get? b=some o'
 same:bw B.s s
def At(cx:Cx)(L:Lp)(c:Nat)(B:Bs)(st:St)(N:Nat):Prop:=
 ∀I σ s,fJ c B I σ st.length s→au cx L.k L.A I σ st s→av cx.P L.fe L.m L.env I σ st.length s.heap→q6 cx L N s
theorem At.le{B:Bs}{st:St}{N N':Nat}(h:N≤N')(a:At cx L c B st N):At cx L c B st N':=fun I σ s x y z=>UL h (a I σ s x y z)
noncomputable def DI(ev:Ev)(L:Lp)(st:St):aA cz:=(ev.t L.k L.fe L.m st L.test).bind fun p=>match p.1 with
 |true=>ev.b L.k L.fe L.m p.2 L.body
 |false=>.bad
theorem fJ.choose(w:fJ c B I σ n s)(hc:c≤n)(hX:∀b,X b→B.X b)
  (x:aM P X I σ n s.heap dj bH bW br.heap)(sm:bw s br)(f:nV c aD z bH bW st'):fJ c B (c8 dj bH z bW.length br.heap) (dY aD bH) st'.length br:=by
 have dead:∀{b:Addr},s.heap.get? b=none→B.s.heap.get? b=none:=fun{b} e=>by
  induction q:B.s.heap.get? b using qe with
  |none=>rfl
  |some o=>obtain⟨o',e'⟩:=w.alive b o q;rw[e]at e';exact nn e'
 have FP:∀k,c≤k→k<bW.length→B.X (bH k)∨B.s.heap.get? (bH k)=none:=fun k h1 h2=>by
  by_cases q:k<n
  ·rw[x.le.s k q];exact w.own k h1 q
  ·exact .inr (dead (x.new k (qC q) h2))
 have abd:∀(j k:Nat),c≤j→aD[j]? =some k→c≤k:=fun j k h1 e=>by
  rcases qR k c with q|q
  ·have:=f.inj j k k e (f.vm k q);lia
  ·exact q
 refine⟨fun b o e=>fT _ _ (x.le.i b o (w.i b o e)),fun k hk=> ?_,fun b o e=> ?_,fun j h1 h2=> ?_,fun b o e h1 h2=> ?_,fun b o e=> ?_,w.same.trans sm⟩
 ·rw[eG (f.vm k hk),x.le.s k (by exact qz ‹_› ‹_›)];exact w.sg k hk
 ·rcases gS e with q|⟨_,_,k,hz,hk,e'⟩
  ·rcases x.fresh b o q with q|q
   ·exact w.fresh b o q
   ·exact .inr (.inl (dead q))
  ·have nI:c≤k:=by
    rcases qR k c with q|q
    ·exact absurd hz (f.lt k k (f.vm k q)).2
    ·exact q
   rw[←e'];rcases FP k nI hk with q|q
   ·exact .inr (.inr q)
   ·exact .inr (.inl q)
 ·have hj:j<aD.length:=by rw[←f.len];exact h2
  have ej:aD[j]? =some aD[j]:=qw hj;rw[eG ej];exact FP _ (abd j _ h1 ej) (f.lt j _ ej).1
 ·refine x.keep b o (w.keep b o e h1 h2) (fun q=>h1 (hX b q)) fun k hk q=> ?_;rcases qR k c with g|g
  ·rw[w.sg k g]at q;exact h2 k g q
  ·rcases w.own k g hk with q'|q'
   ·rw[q]at q';exact h1 q'
   ·rw[q,e]at q';exact ns q'
 ·obtain⟨o',e'⟩:=w.alive b o e;exact x.alive b o' e'
theorem UM{c:Nat}{B:Bs}{st:St}{N:Nat}(S:aU cx ev)(hX:∀b,aF L.env b→B.X b)(hm:pS c L.m=true)(hf:L.fe.free=[])(hc:c≤st.length)
  (g:Good cx.S cx.pre (DI ev L st) fun p=>p.1.1=.next∧p.1.2=L.m∧∀σ,(∀k,k<p.2.length→σ k≠sysModules)→∃aD z st',nV c aD z σ p.2 st'∧At cx L c B st' N):At cx L c B st (N+1):=by
 intro I σ s w H l;unfold DI at g;refine S.tt H l g fun bG aZ aX s₁ b aV aO aY bD aQ=>⟨fun eb=> ?_,fun eb=> ?_⟩
 ·subst eb;refine S.b aY bD (Good.mono (fun p gp dj bH f br bQ cJ ro=> ?_) aQ);obtain⟨⟨out,m₂⟩,bW⟩:=p;obtain⟨ro,dX⟩:=ro;obtain⟨e1,e2,gp⟩:=gp;cases e1
  cases e2
  have xa:=(aV.weaken (Y:=aF L.env) fun _ q=>q.elim).trans bQ;have cO:au cx L.k L.A dj bH bW br:=H.go xa;obtain⟨aD,z,st',fw,at'⟩:=gp bH fun k hk q=>by
   obtain⟨o,ho⟩:=cO.base.tS;have:=cO.rel.out k hk;rw[q,ho]at this;exact ns this
  obtain rfl:=ro;refine⟨rfl,at' _ _ br (w.choose hc hX xa (aO.trans cJ) fw) ⟨H.fit,cO.base.mono fT,cO.rel.choose fw⟩ ?_⟩;rw[fw.len];exact dX.choose hm hf fw.vm fun j k e=>(fw.lt j k e).1
 ·subst eb;exact aQ.elim
noncomputable def jJ(fd:FuncData):List Stmt:=match fd.body with
 |.stmts b=>b
 |.expr _=>[]
noncomputable def jU(i:Nat):Option Stmt:=di (jJ nQ) i
noncomputable def dN(nm:Str)(i:Nat):FuncData:=P0 nm ("_law_kinds.<locals>."++nm) (jU i) .none .none .none
noncomputable def AV:FuncData:=match jU 9 with
 |some s=>match s with
  |.Assign _ v _=>match v with
   |.Lambda a b sc _=>{name:="<lambda>",qualname:="_law_kinds.<locals>.<lambda>",params:=a,body:=.expr b,scope:=sc,globals:=mainGlobals,closure:=[],defaults:=.none,kwdefaults:=.none,builtins:=builtinsNs}
   |_=>default
  |_=>default
 |none=>default
noncomputable def Ka:V:=.jy (dN "leave_or_done" 0) []
noncomputable def DJ(m:Nat):ai:=[("marks",.loc m),("leave_or_done",Ka)]
noncomputable def zH(m:Nat):ai:=[("int",.jy (dN "made" 1) (DJ m)),("ivar",.jy (dN "toss" 2) [("leave_or_done",Ka)]),
 ("gvar",.jy (dN "guarded" 3) (DJ m)),("sending",.jy (dN "sending" 4) (DJ m)),("settle",.jy (dN "settle" 5) [("marks",.loc m)]),
 ("nil",.top 573),("array",.top 587),("values",.top 580),("seq",.top 594),("p_bind",.top 740),("p_value",.top 733),
 ("p_alt",.top 747),("casein",.top 803),("matchp",.top 824),("matchq",.top 831),("case",.jy AV [])]
structure Ws where
 aa:List V
 t:Int
 ln:Int
 md:ai
 out:Value
 main:Value
noncomputable def DK(way:V):AO:=.dict [("world",.loc 3),("table",.loc 7),("catches",.tup []),("stack",.loc 4),("way",way),("fiber",.none)]
noncomputable def AW(w:Ws):AO:=.dict [("natives",.fB []),("prelude",.fB []),("read",.none),("most",.int 20000),("taken",.num w.t),("last_number",.num w.ln),
 ("last_ident",.int 8),("symbol_idents",.fB []),("made",.loc 6),("version",.int 0),("const_version",.int 0),("globals",.fB []),("out",.aL w.out),("is_ready",.bool true),("main",.aL w.main)]
noncomputable def FF(vV:AO)(way:V)(w:Ws)(T:St):St:=DK way::.inst 562 0::AW w::.inst 1111 2::vV::.list [] w.aa::.dict w.md::.dict (zH 5)::T
noncomputable def bx(kind:Str)(node state Qq:V):AO:=.dict [("kind",.str kind),("node",node),("env",.none),("number",.none),("state",state),("held",Qq),("kept",.none)]
noncomputable def o8:FE:=⟨sU.scope,[]⟩
noncomputable def uH:Expr:=match di (jJ sU) 0 with
 |some s=>match s with
  |.While t _ _ _=>t
  |_=>default
 |none=>default
noncomputable def yi:List Stmt:=match di (jJ sU) 0 with
 |some s=>match s with
  |.While _ b _ _=>b
  |_=>default
 |none=>default
noncomputable def cG:ai:=[("self",.loc 1)]
noncomputable def bT(p:Program)(w:World)(K:Frag)(n k:Nat)(st:St):aA cz:=((cX (az p w K n) 200).t (k+40) o8 cG st uH).bind fun q=>match q.1 with
 |true=>(cX (az p w K n) 200).b (k+40) o8 cG q.2 yi
 |false=>.bad
theorem av.re(l:av P fe m env I σ n h)(hm:pS c m=true)(hf:fe.free=[])
  (ls:∀k,k<c→af k=σ k)(hc:c≤n')(ap:∀b,aF env b→∀k,k<n'→af k≠b):av P fe m env I af n' h:=by
 have up:∀{v:V} {y:Value},kF c v=true→aq I P σ n v y→aq I P af n' v y:=fun e r=>oJ (fun _ _ e=>e) ls hc r e;refine⟨l.scope,l.kind,l.glob,l.blt, ?_,fun x v e hk=> ?_,l.there,fun x v e=> ?_,fun b hb=>⟨(l.apart b hb).1,ap b hb⟩,l.ne,l.inj⟩
 ·obtain⟨mm,h1,h2⟩:=l.ns;refine⟨mm,h1,fun x v e hk=> ?_⟩;obtain⟨y,e1,r⟩:=h2 x v e hk;exact⟨y,e1,up (yh hm e) r⟩
 ·obtain⟨d,y,h1,h2,r⟩:=l.cell x v e hk;exact⟨d,y,h1,h2,up (yh hm e) r⟩
 ·rw[hf]at e;exact nn e
structure IsRun (L:Lp):Prop where
 m:L.m=cG
 fe:L.fe=o8
def AX(cx:Cx)(L:Lp)(hg:Nat)(C:St)(w0:Ws)(abe:V)(n:Nat)(W:V→Ws→Prop):Prop:=
 ∀(B:Bs) (pre:LV) (N:Nat),(∀b,aF L.env b→B.X b)→pre.length+hg≤1000→(∀bh w',W bh w'→At cx L 8 B (FF (.list pre []) bh w' []) N)→At cx L 8 B (FF (.list pre [.loc 9]) abe w0 C) (N+n)
structure WOk (way:V) (w:Ws):Prop where
 way:aJ way=true
 aa:bB w.aa=true
 md:dF w.md=true
noncomputable def kJ(t c:Nat):List Nat:=0::1::2::3::4::5::6::7::(List.range c).map (· +(8+t))
theorem zI(t c:Nat):∀k,k<8→(kJ t c)[k]? =some k:=fun k hk=>MX (P:=fun k=>(kJ t c)[k]? =some k) hk rfl rfl rfl rfl rfl rfl rfl rfl
theorem pK(h:(kJ t c)[j]? =some k):(j<8∧k=j)∨(8≤j∧k=j+t∧j<8+c):=by
 rcases qR j 8 with q|q
 ·rw[zI t c j q]at h;injection h with h;exact .inl ⟨q,h.symm⟩
 ·obtain⟨i,rfl⟩:=Nat.exists_eq_add_of_le q;rw[Nat.add_comm 8 i]at h;have h':((List.range c).map (· +(8+t)))[i]? =some k:=h;rw[List.getElem?_map]at h';induction e:(List.range c)[i]? using qe with
  |none=>rw[e]at h';exact nn h'
  |some x=>
   rw[e]at h';obtain⟨h1,h2⟩:=List.getElem?_eq_some_iff.mp e;rw[List.getElem_range]at h2;rw[List.length_range]at h1;injection h' with h';have h':x+(8+t)=k:=h';refine .inr ⟨q,by lia,by exact qu ‹_› _⟩
theorem zJ(t c:Nat):(kJ t c).length=8+c:=by simp[kJ];try lia
theorem bU(vV:AO)(way:V)(w:Ws)(T:St):(FF vV way w T).length=8+T.length:=by simp[FF];lia
theorem kB(i:Nat):(FF vV way w T)[8+i]? =T[i]? :=by rw[Nat.add_comm];rfl
theorem Xa(h:k<8):(FF vV way w T)[k]? =(FF vV way w T')[k]? :=by
 exact MX (P:=fun k=>(FF vV way w T)[k]? =(FF vV way w T')[k]?) h rfl rfl rfl rfl rfl rfl rfl rfl
theorem Xb(h:k≠4):(FF vV way w T)[k]? =(FF Xc way w T)[k]? :=by
 by_cases q:k<4
 ·exact So (P:=fun k=>(FF vV way w T)[k]? =(FF Xc way w T)[k]?) q rfl rfl rfl rfl
 ·obtain⟨j,e⟩:=Nat.exists_eq_add_of_lt (Nat.lt_of_le_of_ne (qC q) h.symm);rw[e,show 4+j+1=j+5 by lia];rfl
theorem SJ{P:AO→Prop}(i:Nat)(o:AO)(e:([]:St)[i]? =some o):P o:=nn e
theorem pL{P:AO→Prop}(h:P a)(t:∀(i:Nat) o,l[i]? =some o→P o)(i:Nat)(o:AO)(e:(a::l)[i]? =some o):P o:=by
 induction i using qk with
 |zero=>exact qc e▸h
 |succ i=>exact t i o e
theorem Xd{P:AO→AO→Prop}(i:Nat)(o o':AO)(e:([]:St)[i]? =some o)(_:([]:St)[i]? =some o'):P o o':=nn e
theorem vo{P:AO→AO→Prop}(h:P a b)(t:∀(i:Nat) o o',l[i]? =some o→l'[i]? =some o'→P o o')(i:Nat)(o o':AO)(e:(a::l)[i]? =some o)(e':(b::l')[i]? =some o'):P o o':=by
 induction i using qk with
 |zero=>exact qc e▸qc e'▸h
 |succ i=>exact t i o o' e e'
section
variable{st:St}
theorem gT:bB vs=true→yX c aD z σ st m vs vs:=by
 induction vs with
 |nil=>exact fun _=>.nil
 |cons v vs ih=>exact fun h=>.cons (.closed (bk h).1) (ih (bk h).2)
theorem fj:dF vs=true→mL c aD z σ st m vs vs:=by
 induction vs with
 |nil=>exact fun _=>.nil
 |cons v vs ih=>exact fun h=>.cons (.closed (bk h).1) (ih (bk h).2)
theorem Ig(h:Fw 8 aD z σ st false way bh):mO 8 aD z σ st (DK way) (DK bh):=
 .dict (.cons (.fix rfl) (.cons (.fix rfl) (.cons (.fix rfl) (.cons (.fix rfl) (.cons h (.cons (.fix rfl) .nil))))))
theorem FQ:mO 8 aD z σ st (AW w) (AW w):=.fix rfl
theorem Nv:mO 8 aD z σ st (.dict (zH 5)) (.dict (zH 5)):=.fix rfl
end
theorem fJ.refl(c:Nat)(B:Bs)(n:Nat)(ho:∀k,c≤k→k<n→B.X (B.σ k)):fJ c B B.I B.σ n B.s:=
 ⟨fun _ _ e=>e,fun _ _=>rfl,fun _ _ e=>.inl e,fun k h1 h2=>.inl (ho k h1 h2),fun _ _ e _ _=>e,fun _ o e=>⟨o,e⟩,bw.refl _⟩
theorem nA(t c i:Nat)(h:i<c):(kJ t c)[8+i]? =some (8+t+i):=by
 rw[Nat.add_comm 8 i];have:((List.range c).map (· +(8+t)))[i]? =some (8+t+i):=by
  rw[List.getElem?_map,List.getElem?_range h];exact congrArg some (Nat.add_comm i (8+t))
 exact this
theorem pM{P:AO→AO→Prop}(h:P a b)(o o':AO)(e:some a=some o)(e':some b=some o'):P o o':=qc e▸qc e'▸h
theorem Qs(ok:WOk way w)(hp:pre.length<100000)(hl:C.length=C2.length)
  (hC:∀(i:Nat) (o o':AO),C2[i]? =some o→C[i]? =some o'→mO 8 (kJ T.length C.length) (fun _=>False) σ (FF (.list pre [.loc 9,.loc (8+T.length+1)]) way w (T++C2)) o o')
  (h1:2≤C.length):nV 8 (kJ T.length C.length) (fun _=>False) σ (FF (.list pre [.loc 9,.loc (8+T.length+1)]) way w (T++C2)) (FF (.list (pre++[.ref (σ 9)]) [.loc 9]) way w C):=by
 refine⟨by rw[bU,zJ],zI _ _,fun i j k e1 e2=> ?_,fun j k e=>⟨?_,fun q=>q⟩,fun j k o o' e e1 e2=> ?_⟩
 ·rcases pK e1 with⟨a,b⟩|⟨a,b,_⟩<;>rcases pK e2 with⟨a',b'⟩|⟨a',b',_⟩<;>lia
 ·rw[bU,List.length_append];rcases pK e with⟨a,b⟩|⟨a,b,d⟩<;>lia
 ·rcases pK e with⟨a,rfl⟩|⟨a,b,d⟩
  ·exact MX (P:=fun k=>∀o o',(FF (.list pre [.loc 9,.loc (8+T.length+1)]) way w (T++C2))[k]? =some o→(FF (.list (pre++[Value.ref (σ 9)]) [.loc 9]) way w C)[k]? =some o'→mO 8 (kJ T.length C.length) (fun _=>False) σ (FF (.list pre [.loc 9,.loc (8+T.length+1)]) way w (T++C2)) o o') a
    (pM (Ig (.closed ok.way))) (pM (.fix rfl)) (pM FQ) (pM (.fix rfl)) (pM (.under hp (.cons (.loc (nA _ _ 1 (Nat.lt_of_succ_le h1))) .nil))) (pM (.list (gT ok.aa))) (pM (.dict (fj ok.md))) (pM Nv) o o' e1 e2
  ·obtain⟨i,rfl⟩:=Nat.exists_eq_add_of_le a;subst b;rw[kB]at e2;rw[show 8+i+T.length=8+(T.length+i)from by lia,kB,qx (by exact kT),Nat.add_sub_cancel_left]at e1;exact hC i o o' e1 e2
theorem Cc(ir:IsRun L)(ev:AX cx L hg C w way n W)(hX:∀b,aF L.env b→B.X b)(hp:pre.length+hg+1≤1000)(ok:WOk way w)
  (hT:∀(k:Nat) (o:AO),T[k]? =some o→nU (8+T.length) o=true)(hT2:2≤T.length)(hl:C.length=C2.length)(h1:2≤C.length)
  (hC:∀(σ:Nat→Addr) (i:Nat) (o o':AO),C2[i]? =some o→C[i]? =some o'→mO 8 (kJ T.length C.length) (fun _=>False) σ (FF (.list pre [.loc 9,.loc (8+T.length+1)]) way w (T++C2)) o o')
  (hk:∀bh w',W bh w'→At cx L 8 B (FF (.list pre [.loc 9]) bh w' T) N):At cx L 8 B (FF (.list pre [.loc 9,.loc (8+T.length+1)]) way w (T++C2)) (N+n):=by
 intro I σ s w0 H l;have hm:pS 8 L.m=true:=by rw[ir.m];rfl
 have Ml:L.fe.free=[]:=by rw[ir.fe];rfl
 have fw:=Qs (σ:=σ) (pre:=pre) (way:=way) (w:=w) (T:=T) ok (by lia) hl (hC σ) h1;have hn:(FF (.list pre [.loc 9,.loc (8+T.length+1)]) way w (T++C2)).length=8+T.length+C.length:=by rw[bU,List.length_append,hl];exact(Nat.add_assoc _ _ _).symm
 have hnC:(FF (.list (pre++[.ref (σ 9)]) [.loc 9]) way w C).length=8+C.length:=bU ..;generalize yH:FF (.list pre [.loc 9,.loc (8+T.length+1)]) way w (T++C2)=st at*;have hr:=H.rel.choose fw;generalize hI:c8 I σ (fun _=>False) st.length s.heap=Ic at hr;have le:f7 I Ic:=by rw[←hI];exact fT
 have back:∀b o,Ic b=some o→I b=some o:=fun b o e=>by
  rw[←hI]at e;rcases gS e with q|⟨_,_,_,q,_⟩
  ·exact q
  ·exact q.elim
 generalize Nx:dY (kJ T.length C.length) σ=Ih at hr;have c0:∀k,k<8→Ih k=σ k:=fun k hk=>by rw[←Nx];exact eG (zI _ _ k hk)
 have c1:∀j,8≤j→j<8+C.length→Ih j=σ (j+T.length):=fun j a b=>by
  rw[←Nx];have hj:j<(kJ T.length C.length).length:=by rw[zJ];exact b
  have ej:(kJ T.length C.length)[j]? =some (kJ T.length C.length)[j]:=qw hj;rcases pK ej with⟨x,_⟩|⟨_,y,_⟩
  ·exact absurd ‹_› (Nat.not_lt_of_le ‹_›)
  ·rw[eG ej,y]
 have dead:∀{b:Addr},s.heap.get? b=none→B.s.heap.get? b=none:=fun{b} e=>by
  induction q:B.s.heap.get? b using qe with
  |none=>rfl
  |some o=>obtain⟨o',e'⟩:=w0.alive b o q;rw[e]at e';exact nn e'
 let B':Bs:=⟨fun b=>(∃j,8≤j∧j<8+C.length∧Ih j=b)∨aF L.env b,Ic,Ih,s⟩
 have lc:av cx.P L.fe L.m L.env Ic Ih (8+C.length) s.heap:=by
  have:=l.choose (z:=fun _=>False) hm Ml fw.vm fun j k e=>(fw.lt j k e).1;rw[hI,Nx,zJ]at this;exact this
 refine ev B' (pre++[.ref (σ 9)]) N (fun b hb=>.inr hb) (by rw[List.length_append];show pre.length+1+hg≤_;lia) (fun bh w' hW=> ?_) Ic Ih s (fJ.refl 8 B' _ fun k a b=>.inl ⟨k,a,by rw[hnC]at b;exact b,rfl⟩) ⟨H.fit,H.base.mono le,hr⟩ (by rw[hnC];exact lc);intro rH oF wj xe Xe Ww;have x0:∀k,k<8+T.length→¬B'.X (σ k):=fun k hk q=>by
  rcases q with⟨j,a,b,e⟩|q
  ·rw[c1 j a b]at e;have:=H.rel.inj _ _ (by rw[hn];lia) (by rw[hn];exact qz ‹_› (qp _ _)) e;lia
  ·exact(l.apart _ q).2 k (by rw[hn];lia) rfl
 have far:∀k,8≤k→k<st.length→∀j,j<8→B'.σ j≠σ k:=fun k a b j hj e=>by
  have e':σ j=σ k:=by rw[←c0 j hj];exact e
  have:=H.rel.inj _ _ (by rw[hn];lia) b e';lia
 refine hk bh w' hW rH σ wj ⟨fun b o e=>xe.i b o (le b o (w0.i b o e)),w0.sg,fun b o e=> ?_,fun k a b=> ?_,fun b o e h1 h2=> ?_,fun b o e=> ?_,w0.same.trans xe.same⟩ ⟨H.fit,Xe.base,⟨Xe.rel.sub,fun k o e=> ?_,fun i j hi hj=> ?_,fun k hk=> ?_⟩⟩ ?_
 ·rcases xe.fresh b o e with q|q|q
  ·exact w0.fresh b o (back b o q)
  ·exact .inr (.inl (dead q))
  ·rcases q with⟨j,a,b',e'⟩|q
   ·rw[c1 j a b']at e';rw[←e'];rcases w0.own (j+T.length) (by exact ntr ‹_›) (by rw[hn];lia)with q|q
    ·exact .inr (.inr q)
    ·exact .inr (.inl q)
   ·exact .inr (.inr (hX b q))
 ·rw[bU]at b;exact w0.own k a (by rw[hn];lia)
 ·refine xe.keep b o (w0.keep b o e h1 h2) (fun q=> ?_) fun k hk q=> ?_
  ·rcases q with⟨j,a,b',e'⟩|q
   ·rw[c1 j a b']at e';rcases w0.own (j+T.length) (by lia) (by rw[hn];lia)with q|q
    ·rw[e']at q;exact h1 q
    ·rw[e',e]at q;exact ns q
   ·exact h1 (hX b q)
  ·have q':σ k=b:=by rw[←c0 k hk];exact q
   rw[w0.sg k hk]at q';exact h2 k hk q'
 ·obtain⟨o',e'⟩:=w0.alive b o e;exact xe.alive b o' e'
 ·rw[bU];rcases qR k 8 with q|q
  ·have cell:∀o2,(FF (.list (pre++[.ref (σ 9)]) []) bh w' [])[k]? =some o2→∃ob,wj.heap.get? (σ k)=some ob∧dw rH cx.P oF 8 o2 ob:=fun o2 e2=>by
    obtain⟨ob,g,r⟩:=Xe.rel.cells k o2 e2;rw[xe.sg k q,show B'.σ k=σ k from c0 k q]at g;exact⟨ob,g,r⟩
   have mono:∀{o2 ob},dw rH cx.P oF 8 o2 ob→dw rH cx.P σ (8+T.length) o2 ob:=fun r=>r.mono ⟨fun _ _ e=>e,fun j hj=>by rw[xe.sg j hj];exact(c0 j hj).symm,by exact kT⟩;by_cases q4:k=4
   ·subst q4;obtain rfl:=qc e;obtain⟨ob,g,r⟩:=cell _ rfl;refine⟨ob,g, ?_⟩;replace r:=r.inv;induction r using j7.casesOn with
    |mk ep hp' r=>
     rw[show _=[]from r.inv]at*;rw[List.append_nil];exact .list ep (by lia) (.cons (.loc (σ:=σ) 9 (by lia)) .nil)
   ·rw[Xa (T':=[]) q,Xb (Xc:=.list (pre++[.ref (σ 9)]) []) q4]at e;obtain⟨ob,g,r⟩:=cell o e;exact⟨ob,g,mono r⟩
  ·obtain⟨i,rfl⟩:=Nat.exists_eq_add_of_le q;rw[kB]at e;have hi:i<T.length:=(List.getElem?_eq_some_iff.mp e).1;have e0:st[8+i]? =some o:=by rw[←yH,kB,qB hi];exact e
   obtain⟨ob,g,r⟩:=H.rel.cells (8+i) o e0;exact⟨ob,xe.keep _ ob g (x0 _ (by exact qu ‹_› _)) (far _ q (by rw[hn];lia)),FN (c:=8+T.length) (fun b o e=>xe.i b o (le b o e)) (fun _ _=>rfl) (qf _) r (hT i o e)⟩
 ·rw[bU]at hi hj;exact H.rel.inj i j (by rw[hn];lia) (by rw[hn];lia)
 ·rw[bU]at hk;induction q:rH (σ k)using qe with
  |none=>rfl
  |some o=>
   rcases xe.fresh _ _ q with q|q|q
   ·have:=back _ _ q;rw[H.rel.out k (by rw[hn];lia)]at this;exact nn this
   ·obtain⟨o',e'⟩:=H.rel.live (k:=k) (by rw[hn];lia);rw[show s.heap.get? (σ k)=none from q]at e';exact nn e'
   ·exact absurd q (x0 k hk)
 ·rw[bU];refine Ww.re hm Ml (fun j hj=> ?_) (by lia) fun b hb k hk=>(l.apart b hb).2 k (by rw[hn];lia);rw[xe.sg j hj];exact(c0 j hj).symm
structure bL (L:Lp) (k:Nat):Prop extends IsRun L where
 k:L.k=k+40
 test:L.test=uH
 body:L.body=yi
def fZ(cx:Cx)(L:Lp)(B:Bs)(N:Nat)(st:St):Prop:=∀σ,(∀k,k<st.length→σ k≠sysModules)→∃aD z st',nV 8 aD z σ st st'∧At cx L 8 B st' N
def jx(cx:Cx)(L:Lp)(B:Bs)(N:Nat)(q:cz):Prop:=q.1.1=.next∧q.1.2=cG∧fZ cx L B N q.2
theorem cj{wo:World}{K:Frag}{n k N:Nat}{L:Lp}{B:Bs}{st:St}(rl:bL L k)(hX:∀b,aF L.env b→B.X b)(hc:8≤st.length)
  (g:Gd (dR n) aI (bT p wo K n k st) (jx (az p wo K n) L B N)):At (az p wo K n) L 8 B st (N+1):=by
 refine UM (eY (yg p wo K n) 200) hX (by rw[rl.m];rfl) (by rw[rl.fe];rfl) hc ?_;have e:DI (cX (az p wo K n) 200) L st=bT p wo K n k st:=by unfold DI bT;rw[rl.k,rl.m,rl.fe,rl.test,rl.body]<;>exact congrArg (aA.bind _) (funext fun q=>by obtain⟨b,st'⟩:=q;induction b using qd<;>rfl)
 rw[e,rl.m];exact g.out
section
variable{α:Type}
theorem ck(h:wO r=true)(n:jb r)(hb:xY r=decide ((20000:Int)<t+1))(ht:t<20000)(hk:Gd S pre (ah r false) Q):Gd S pre r Q:=by
 refine uA h n fun c hc=> ?_;rw[hb]at hc;rw[←hc,decide_eq_false (by lia)];exact hk
end
theorem kC{n N:Nat}{r:aA cz}{st:St}(h:iM r=true)(hn:jb r)(e1:yW r=.next)(e2:tw r=cG)(e3:lY r=st)(q:fZ cx L B N st):Gd (dR n) aI r (jx cx L B N):=by
 refine w9 h hn ?_;rw[e1,e2,e3];exact⟨rfl,rfl,q⟩
inductive An where
 |b (c:Bool)
 |v (v:V)
noncomputable def Zw(r:aA cz)(a:An):aA cz:=match a with
 |.b c=>ah r c
 |.v v=>bE r v
noncomputable def Xf(r:aA cz)(as:List An):List (Vw cz):=match as with
 |[]=>[vw r]
 |a::as=>vw r::Xf (Zw r a) as
abbrev cY:Prop:=([V.loc 9]:List V).length+1≤500∧True
theorem bq:cY:=⟨by decide,trivial⟩
def Go(n:Nat)(cx:Cx)(L:Lp)(B:Bs)(N:Nat)(ws:List (Vw cz))(as:List An):Prop:=∀r,Xf r as=ws→Gd (dR n) aI r (jx cx L B N)
section
theorem Go.fk(hp:p)(hb:b=c)(k:Go n cx L B N ws as):Go n cx L B N (.fork p b::ws) (.b c::as):=by
 intro r e;have e:=List.cons.inj e;obtain⟨_,s,d⟩:=Fi e.1;refine uA (congrArg BY s) (nd d hp) fun c' hc=> ?_;rw[←hc,show xY r=_ from congrArg E9 s,hb];exact k _ e.2
theorem Go.pk(hp:p)(j:Nat)(hi:i=Int.ofNat j)(hv:vs[j]? =some v)(hl:vs.length<500)(k:Go n cx L B N ws as):Go n cx L B N (.pick p vs i::ws) (.v v::as):=by
 intro r e;have e:=List.cons.inj e;obtain⟨_,s,d⟩:=Fj e.1;exact ie _ _ j _ (congrArg Fb s) (nd d hp) hi hv hl (k _ e.2)
theorem Go.ok{st:St}(hp:p)(q:fZ cx L B N st):Go n cx L B N [.ok p ((.next,cG),st)] []:=fun _ e=>oY ⟨rfl,rfl,q⟩ hp (List.cons.inj e).1
end
theorem fR{K:Frag}{n k N:Nat}{L:Lp}{B:Bs}{lst:AO}{way:V}{w:Ws}{T:St}(as:List An)(ws:List (Vw cz))(rl:bL L k)(hX:∀b,aF L.env b→B.X b)(ht:w.t<20000)(g:Go n (az p wo K n) L B N ws as)
  (e:Xf (bT p wo K n k (FF lst way w T)) (.b false::as)=.fork cY (decide ((20000:Int)<w.t+1))::ws):At (az p wo K n) L 8 B (FF lst way w T) (N+1):=
 cj rl hX (by rw[bU];exact qp _ _) (Go.fk bq (decide_eq_false (Int.not_lt.mpr ht)) g _ e)
noncomputable abbrev uI:=mw 8
noncomputable def gD(ks:List Nat):List Nat:=0::1::2::3::4::5::6::7::ks
theorem xh(i:Nat):(gD ks)[8+i]? =ks[i]? :=by rw[Nat.add_comm];rfl
noncomputable abbrev t9(ks zs:List Nat):Bool:=W9 8 (gD ks) zs
theorem nW(ok:t9 ks zs=true)
  (hw:Fw 8 (gD ks) (· ∈zs) σ (FF (.list pre vs) way w X) false way bh)(hv:yX 8 (gD ks) (· ∈zs) σ (FF (.list pre vs) way w X) false vs eu)(hm:bB w.aa=true)
  (hd:mL 8 (gD ks) (· ∈zs) σ (FF (.list pre vs) way w X) false w.md lZ)(hT:uI (gD ks) (· ∈zs) σ (FF (.list pre vs) way w X) ks T):
  nV 8 (gD ks) (· ∈zs) σ (FF (.list pre vs) way w X) (FF (.list pre eu) bh {w with md:=lZ} T):=
 xd ok (.cons rfl (Ig hw) (.cons rfl (.fix rfl) (.cons rfl FQ (.cons rfl (.fix rfl) (.cons rfl (.list hv) (.cons rfl (.list (gT hm)) (.cons rfl (.dict hd) (.cons rfl Nv hT))))))))
noncomputable def aC(Cd:Str)(v:V):V:=.inst 441 [("sort",.str Cd),("value",v),("tag",.none)]
noncomputable def dZ(Cd:Str)(v:V):AO:=.dict [("sort",.str Cd),("value",v),("tag",.none)]
theorem eO{st:St}{j d:Nat}{Cd:Str}{v v':V}(hj:z j)(hd:z d)(e:st[j]? =some (.inst 441 d))(e':st[d]? =some (dZ Cd v))(h:Fw c aD z σ st true v v'):
  Fw c aD z σ st false (.loc j) (aC Cd v'):=
 .inst hj hd e e' (.cons (.closed rfl) (.cons h (.cons (.closed rfl) .nil)))
section
variable{S:Spec}{α:Type}{Q:α→Prop}{r:aA α}
theorem sq(h:wO r=true)(n:jb r)(hb:xY r=b)(hk:Gd S pre (ah r b) Q):Gd S pre r Q:=uA h n fun c hc=>by rw[←hc,hb];exact hk
end
theorem DL{x:cR}(c:bB mk=true)(h:mk.length+x.marks.length≤400):ZL (x.all mk):=⟨fO c (gx _),by unfold cR.all;rw[List.length_append,List.length_map];exact h⟩
theorem yj{α:Type}{Q:α→Prop}{n:Nat}{r:aA α}(x:cR)(l:Nat){mk:List V}(hr:x.rk<n)(h:BW r=some (x.fn,x.args++[.loc l]))(hn:jb r)(D':Nat)(hd:BX r=D')(Ny:x.dp≤D')(ok:x.ok)
  (e:listAt (mq r) l=some ([],mk))(z:ZL (x.all mk))(hk:Gd (dR n) aI (jS r x.val (cD (mq r) l (.list [] (x.all mk)))) Q):Gd (dR n) aI r Q:=
 MU _ _ h hn (fun v st'=>v=x.val∧st'=cD (mq r) l (.list [] (x.all mk))) (.inl ⟨x,l,mk,hr,rfl,rfl,by rw[hd];exact Ny,ok,e,z,rfl,rfl⟩) fun v st' hS=>by rw[hS.1,hS.2];exact hk
theorem FT{α:Type}{Q:α→Prop}{n:Nat}{r:aA α}(x:Val)(hr:0<n)(ok:x.ok)(h:BW r=some (345,[x.v]))(hn:jb r)(D':Nat)(hd:BX r=D')(Ny:8≤D')(st:St)(es:mq r=st)
  (hk:Gd (dR n) aI (jS r (.str (eE x)) st) Q):Gd (dR n) aI r Q:=
 MU _ _ h hn (fun v st'=>v=.str (eE x)∧st'=mq r) (.inr ⟨hr,x,ok,rfl,rfl,by rw[hd];exact Ny,rfl,rfl⟩) fun v st' hS=>by rw[hS.1,hS.2,es];exact hk
noncomputable def vX(q:Nat→Addr):ai:=[("Object",.aL (.ref (q 0))),("BasicObject",.aL (.ref (q 1))),("Class",.aL (.ref (q 2))),("Module",.aL (.ref (q 3))),("Kernel",.aL (.ref (q 4)))]
noncomputable def Ii(q:Nat→Addr):List (Str×V):=vX q++[(("Array":Str),.aL (.ref (q 5))),(("Enumerable":Str),.aL (.ref (q 6)))]
def nY(md:ai):Prop:=∃q,md=vX q∨md=Ii q
theorem nY.closed(h:nY md):dF md=true:=by
 obtain⟨q,rfl|rfl⟩:=h<;>rfl
structure aW (c m:Nat) (w:Ws):Prop where
 t:w.t+c≤20000
 aa:bB w.aa=true
 len:w.aa.length+m≤400
 md:nY w.md
noncomputable def Ce(a1 a2 a3:Int)(o1:Value)(x:Nat→Value)(s:Str):V:=.inst 181 [("number",.int a3),("owner",.inst 228 [("number",.int a1),("owner",.aL o1),("fields",.aL (x 2)),("own",.none),("frozen",.bool false),("ident",.none),("name",.str "NoMatchingPatternError"),("is_class",.bool true),
 ("parent",.aL (x 8)),("outer",.none),("methods",.aL (x 3)),("constants",.aL (x 4)),("mixed",.aL (x 23)),("ahead",.aL (x 6)),("attached",.none),("native",.str "NoMatchingPatternError"),("kept",.none)]),("fields",.aL (x 45)),("own",.none),("frozen",.bool false),("ident",.none),
 ("message",.inst 62 [("number",.int a2),("owner",.aL (x 25)),("fields",.aL (x 42)),("own",.none),("frozen",.bool false),("ident",.none),("text",.str s)]),("cause",.none)]
def Kc(s:Str)(e:V):Prop:=∃t a1 a2 a3 o1 x,s="NoMatchingPatternError "++t∧e=Ce a1 a2 a3 o1 x t
noncomputable def Qt:Rz→V→Prop
 |.int i,v=>v=.int i
 |.str s,v=>Kc s v
noncomputable def o9:bu→V→Prop
 |.val x,v=>v=aC "value" x.v
 |.raise z,v=>∃e,aJ e=true∧Qt z e∧v=aC "raise" e
structure bJ (r:Rd) (c:Nat) (w0:Ws) (u:V) (w:Ws):Prop where
 way:o9 r.2 u
 aa:w.aa=w0.aa++r.1.map Mark.v
 t:w.t≤w0.t+c
 md:nY w.md∨(dF w.md=true∧∃e,u=aC "raise" e)
theorem bJ.up(e:bJ R c w0 u w')(h:c≤c'):bJ R c' w0 u w':=⟨e.way,e.aa,by have:=e.t;lia,e.md⟩
theorem bJ.chain(e1:bJ r1 c w0 u1 w1)(e2:bJ R c2 w1 u w2)(h:c+c2≤cc):bJ (Mine.Internal.after r1.1 R) cc w0 u w2:=
 ⟨e2.way,by rw[e2.aa,e1.aa,List.append_assoc,←List.map_append];rfl,by have:=e1.t;have:=e2.t;lia,e2.md⟩
theorem bJ.tick{aa:List V}{t ln:Int}{md:ai}{out main:Value}{u:V}{w':Ws}(e:bJ R c ⟨aa,t+1,ln,md,out,main⟩ u w'):bJ R (c+1) ⟨aa,t,ln,md,out,main⟩ u w':=
 ⟨e.way,e.aa,by have h:w'.t≤t+1+(c:Nat):=e.t;show w'.t≤t+((c+1:Nat):Int);lia,e.md⟩
theorem bJ.gU(e:bJ R c {w with t:=w.t+1} u w'):bJ R (c+1) w u w':=e.tick
theorem tA{a b:Int}{x y:Nat}(e:b≤a+1+x)(g:x+1≤y):b≤a+y:=by lia
theorem tD{a b:Int}{x y:Nat}(e:b≤a+x)(g:x+1≤y):b+1≤a+y:=by lia
theorem bJ.one(o:nY w.md):bJ ([],.val x) 1 w (aC "value" x.v) {w with t:=w.t+1}:=⟨rfl,(List.append_nil _).symm,Int.le_refl _,.inl o⟩
theorem bJ.fin(e:bJ R c w0 u w)(o:nY w.md):bJ R (c+1) w0 u {w with t:=w.t+1}:=⟨e.way,e.aa,tD e.t (qf _),.inl o⟩
theorem tF{a b:Int}{x y:Nat}(e:b≤a+x)(g:x≤y):b≤a+y:=by lia
theorem tE{a b c:Int}{x y z:Nat}(e:b≤a+x)(f:c≤b+y)(g:x+y≤z):c≤a+z:=by lia
theorem tB{a b:Int}{x y:Nat}(e:b≤a+1+x)(g:x+2≤y):b+1≤a+y:=by lia
noncomputable def iC(kind:Str)(node:V):St:=[bx kind node (.int 0) (.loc 10),.inst 463 8,.list [] []]
def iP(cx:Cx)(L:Lp)(hg n:Nat)(kind:Str)(node:V)(r:Rd):Prop:=∀w,aW n r.1.length w→AX cx L hg (iC kind node) w .none n (bJ r n w)
section
variable{K:Frag}
theorem dI(rl:bL L k)(hX:∀b,aF L.env b→B.X b)(hm:bB w.aa=true)(hd:dF w.md=true)
  (h:At (az p wo K n) L 8 B (FF (.list pre []) (aC "raise" v) w []) N):At (az p wo K n) L 8 B (FF (.list pre [.loc 9]) (aC "raise" v) w (bx kind node state Qq::.inst 463 8::X)) (N+1):=by
 refine cj rl hX (by rw[bU];exact kT) ?_;refine kC (st:=FF (.list pre []) (aC "raise" v) w (bx kind node state Qq::.inst 463 8::X)) kr (nd (p:=cY) kr bq) kr kr kr ?_;exact fun σ _=>⟨gD [],(· ∈[]),_,nW (lZ:=w.md) (T:=[]) rfl (.closed rfl) .nil hm (fj hd) .nil,h⟩
theorem Nz(rl:bL L k):iP (az p wo K n) L 0 1 "nil" (aH.node .nil) (aH.rd .nil):=by
 intro w ok B pre N hX hp h;refine fR [] [.ok cY ((.next,cG),FF (.list pre []) (.loc 12) {w with t:=w.t+1} (iC "nil" (aH.node .nil)++[dZ "value" .none,.inst 441 11]))] rl hX (by have:=ok.t;assumption) (.ok bq ?_) kr;refine fun σ _=>⟨gD [],(· ∈[12,11]),_,nW (w:={w with t:=w.t+1}) (lZ:=w.md) (T:=[]) rfl (eO (j:=12) (d:=11) (v:=.none) (v':=.none) (by exact ms) (by exact kL) rfl rfl (.closed rfl)) .nil ok.aa (fj ok.md.closed) .nil,h _ _ ⟨rfl, ?_, ?_,.inl ok.md⟩⟩
 ·show w.aa=w.aa++[];exact(List.append_nil _).symm
 ·show w.t+1≤w.t+(1:Nat);simp
end
section
variable{K:Frag}
theorem fq(hz:t9 [] zs=true)(hw:∀σ,(∀k,k<(FF (.list pre []) way w X).length→σ k≠sysModules)→Fw 8 (gD []) (· ∈zs) σ (FF (.list pre []) way w X) false way bh)(hm:bB w.aa=true)(hd:dF w.md=true)
  (h:At (az p wo K n) L 8 B (FF (.list pre []) bh w []) N):fZ (az p wo K n) L B N (FF (.list pre []) way w X):=
 fun σ hs=>⟨gD [],(· ∈zs),_,nW (lZ:=w.md) (T:=[]) hz (hw σ hs) .nil hm (fj hd) .nil,h⟩
theorem NB(rl:bL L k)(hn:0<n)(oki:(aH.int i).ok):iP (az p wo K n) L 0 1 "int" (aH.node (.int i)) (aH.rd (.int i)):=by
 intro w ok B pre N hX hp h;have ln:w.aa.length+1≤400:=ok.len;refine cj rl hX (by rw[bU];exact dU) ?_;refine ck (t:=w.t) kr (nd (p:=cY) kr bq) kr (by have:=ok.t;assumption) ?_;refine yj (.leaf (.int i)) 5 hn kr (nd (p:=cY) kr bq) (k+38) kr (qg 8 (k+30)) oki (mk:=w.aa) kr (DL ok.aa ln) ?_;refine kC (st:=FF (.list pre []) (.loc 12) {w with t:=w.t+1,aa:=w.aa++[Mark.v (.made i)]} (iC "int" (aH.node (.int i))++[dZ "value" (.int i),.inst 441 11])) kr (gY kr) kr kr kr ?_;refine fq (bh:=aC "value" (.int i)) (zs:=[12,11]) rfl (fun σ _=>eO (j:=12) (d:=11) (v:=.int i) (by exact ms) (by exact kL) rfl rfl (.closed rfl)) (fO ok.aa (gx [.made i])) ok.md.closed (h _ _ ⟨rfl,rfl, ?_,.inl ok.md⟩);show w.t+1≤w.t+(1:Nat);simp
theorem Ij(rl:bL L k):iP (az p wo K n) L 0 1 "ivar" (aH.node (.gZ i)) (aH.rd (.gZ i)):=by
 intro w ok B pre N hX hp h;refine fR [] [.ok cY ((.next,cG),FF (.list pre []) (.loc 12) {w with t:=w.t+1} (iC "ivar" (aH.node (.gZ i))++[dZ "raise" (.int i),.inst 441 11]))] rl hX (by have:=ok.t;lia) (.ok bq ?_) kr;refine fq (w:={w with t:=w.t+1}) (bh:=aC "raise" (.int i)) (zs:=[12,11]) rfl (fun σ _=>eO (j:=12) (d:=11) (v:=.int i) (by exact ms) (by exact kL) rfl rfl (.closed rfl)) ok.aa ok.md.closed (h _ _ ⟨⟨_,rfl,rfl,rfl⟩, ?_, ?_,.inl ok.md⟩)
 ·show w.aa=w.aa++[];exact(List.append_nil _).symm
 ·show w.t+1≤w.t+(1:Nat);simp
noncomputable def Ik(i:Int):Rd:=([.guard i],dM i)
theorem Kd(i:Int)(s:Str):dM i≠.raise (.str s):=by
 unfold dM
 split<;>exact fun h=>by cases h
theorem Qu(rl:bL L k)(hn:0<n)(hi:0≤i∧i≤5):iP (az p wo K n) L 0 1 "gvar" (je (some i)) (Ik i):=by
 intro w ok B pre N hX hp h;have ln:w.aa.length+1≤400:=ok.len;have cm:bB (cR.all (.guard i) w.aa)=true:=fO ok.aa (gx [.guard i]);have tt:w.t+1≤w.t+(1:Nat):=Int.le_refl _;refine cj rl hX (by rw[bU];exact dU) ?_;refine ck (t:=w.t) kr (nd (p:=cY) kr bq) kr (by have:=ok.t;lia) ?_;refine yj (.guard i) 5 hn kr (nd (p:=cY) kr bq) (k+38) kr (qg 8 (k+30)) hi (mk:=w.aa) kr (DL ok.aa ln) ?_;rw[show cR.val (.guard i)=(dM i).v from rfl];have hw:(Ik i).2=dM i:=rfl;generalize dM i=a at hw⊢;induction a using bu.casesOn with
 |val y=>
  refine kC (st:=FF (.list pre []) (.loc 12) {w with t:=w.t+1,aa:=cR.all (.guard i) w.aa} (iC "gvar" (je (some i))++[dZ "value" y.v,.inst 441 11])) kr (gY kr) kr kr kr ?_;exact fq (bh:=aC "value" y.v) (zs:=[12,11]) rfl (fun σ _=>eO (j:=12) (d:=11) (v:=y.v) (by exact ms) (by exact kL) rfl rfl (.closed (bO y))) cm ok.md.closed (h _ _ ⟨by rw[hw];rfl,rfl,tt,.inl ok.md⟩)
 |raise z=>
  induction z using Rz.casesOn with
  |int j=>
   refine kC (st:=FF (.list pre []) (.loc 12) {w with t:=w.t+1,aa:=cR.all (.guard i) w.aa} (iC "gvar" (je (some i))++[dZ "raise" (.int j),.inst 441 11])) kr (gY kr) kr kr kr ?_;exact fq (bh:=aC "raise" (.int j)) (zs:=[12,11]) rfl (fun σ _=>eO (j:=12) (d:=11) (v:=.int j) (by exact ms) (by exact kL) rfl rfl (.closed rfl)) cm ok.md.closed (h _ _ ⟨by rw[hw];exact⟨_,rfl,rfl,rfl⟩,rfl,tt,.inl ok.md⟩)
  |str s=>exact absurd hw (Kd i s)
end
noncomputable def Ke(t:Nat)(kind:Str)(node:V):St:=[bx kind node (.int 0) (.loc (8+t+2)),.inst 463 (8+t),.list [] []]
theorem FU{st:St}{kind:Str}{node:V}(hn:aJ node=true)(i:Nat)(o o':AO)(e:(Ke t kind node)[i]? =some o)(e':(iC kind node)[i]? =some o'):mO 8 (kJ t 3) z σ st o o':=by
 exact vo (P:=mO 8 (kJ t 3) z σ st) (.dict (.cons (.closed kr) (.cons (.closed hn) (.cons (.closed rfl) (.cons (.closed rfl) (.cons (.closed rfl) (.cons (.loc (nA t 3 2 (by decide))) (.cons (.closed rfl) .nil))))))))
  (vo (.inst 463 (nA t 3 0 (by decide))) (vo (.fix rfl) Xd)) i o o' e e'
section
variable{K:Frag}
theorem gB(rl:bL L k)(ev:iP (az p wo K n) L hg c kind node r)(hX:∀b,aF L.env b→B.X b)(hp:pre.length+hg+1≤1000)
  (ok:aW c r.1.length w)(hn:aJ node=true)(hz:t9 ((8::9::tr)++[d,d+1,d+2]) zs=true)
  (hT:∀σ,(∀k,k<(FF (.list pre [.loc 9,.loc (d+1)]) .none w X).length→σ k≠sysModules)→uI (gD ((8::9::tr)++[d,d+1,d+2])) (· ∈zs) σ (FF (.list pre [.loc 9,.loc (d+1)]) .none w X) (8::9::tr) T)
  (e0:(FF (.list pre [.loc 9,.loc (d+1)]) .none w X)[d]? =some (bx kind node2 (.int 0) (.loc (d+2))))(e1:(FF (.list pre [.loc 9,.loc (d+1)]) .none w X)[d+1]? =some (.inst 463 d))(e2:(FF (.list pre [.loc 9,.loc (d+1)]) .none w X)[d+2]? =some (.list [] []))
  (Kf:∀σ,(∀k,k<(FF (.list pre [.loc 9,.loc (d+1)]) .none w X).length→σ k≠sysModules)→Fw 8 (gD ((8::9::tr)++[d,d+1,d+2])) (· ∈zs) σ (FF (.list pre [.loc 9,.loc (d+1)]) .none w X) false node2 node)
  (FW:∀(k:Nat) (o:AO),T[k]? =some o→nU (8+T.length) o=true)(C8:T.length=tr.length+2)
  (hk:∀bh w',bJ r c w bh w'→At (az p wo K n) L 8 B (FF (.list pre [.loc 9]) bh w' T) N):fZ (az p wo K n) L B (N+c) (FF (.list pre [.loc 9,.loc (d+1)]) .none w X):=by
 intro σ hs;have hi:∀i,(gD ((8::9::tr)++[d,d+1,d+2]))[8+T.length+i]? =([d,d+1,d+2]:List Nat)[i]? :=fun i=>by
  rw[show 8+T.length+i=8+(T.length+i)from by exact Nat.add_assoc _ _ _,xh,qx (by simp;lia)]
  congr 1
  simp;lia
 refine⟨gD ((8::9::tr)++[d,d+1,d+2]),(· ∈zs),FF (.list pre [.loc 9,.loc (8+T.length+1)]) .none w (T++Ke T.length kind node), ?_, ?_⟩
 ·refine nW (lZ:=w.md) hz (.closed rfl) (.cons (.loc rfl) (.cons (.loc (hi 1)) .nil)) ok.aa (fj ok.md.closed) (mw.append (hT σ hs) (.cons e0 ?_ (.cons e1 (.inst 463 (hi 0)) (.cons e2 (.fix rfl) .nil))));exact .dict (.cons (.closed kr) (.cons (Kf σ hs) (.cons (.closed rfl) (.cons (.closed rfl) (.cons (.closed rfl) (.cons (.loc (hi 2)) (.cons (.closed rfl) .nil)))))))
 ·exact Cc rl.toIsRun (ev w ok) hX hp ⟨rfl,ok.aa,ok.md.closed⟩ FW (by lia) rfl (by show 2≤3;exact kU) (fun σ i o o' e e'=>FU hn i o o' e e') hk
end
section
variable{K:Frag}
theorem bC{p:Prop}{r:aA cz}{st:St}(h:iM r=true∧eZ r=p∧yW r=.next∧tw r=cG∧lY r=st)(hp:p)(q:fZ cx L B N st):Gd (dR n) aI r (jx cx L B N):=
 kC h.1 (nd h.2.1 hp) h.2.2.1 h.2.2.2.1 h.2.2.2.2 q
theorem tC(v:V):([v]:List V).length+1≤500:=qo rfl
theorem bJ.cl{w0 w:Ws}{way:V}(e:bJ r c w0 way w)(o:bB w0.aa=true):bB w.aa=true∧dF w.md=true:=by
 refine⟨by rw[e.aa];exact fO o (gx _), ?_⟩;rcases e.md with q|q
 ·exact q.closed
 ·exact q.1
theorem Il(h:aC "value" a=aC "raise" b):False:=by
 injection h with _ h;injection h with h;injection h with _ h;injection h with h;exact absurd h (by decide)
theorem bJ.tw(e:bJ r c w0 (aC "value" v) w):nY w.md:=by
 rcases e.md with q|⟨_,e',q⟩
 ·exact q
 ·exact(Il q).elim
theorem bJ.ok(e:bJ r c w0 (aC "value" v) w)(o:aW (c+c') (r.1.length+m) w0):aW c' m w:=by
 refine⟨?_, ?_, ?_,e.tw⟩
 ·have:=e.t;have:=o.t;lia
 ·rw[e.aa];exact fO o.aa (gx _)
 ·rw[e.aa];have:=o.len;simp;lia
theorem aW.le(o:aW c m w)(h:c'≤c)(h2:m'≤m):aW c' m' w:=⟨by have:=o.t;lia,o.aa,by have:=o.len;lia,o.md⟩
theorem aW.tick(o:aW (c+1) m w):aW c m {w with t:=w.t+1}:=⟨by have:=o.t;show w.t+1+_≤_;lia,o.aa,o.len,o.md⟩
noncomputable def Qv(node:V):St:=[bx "seq" node (.int 1) (.loc 10),.inst 463 8,.list [] []]
theorem AY(rl:bL L k)(hb:iP (az p wo K n) L hg c kb (aj kb pb) r):iP (az p wo K n) L (hg+1) (c+2) "seq" (kI (aj kb pb)) r:=by
 intro w ok B pre N hX hp h;refine At.le (N:=(N+1+c)+1) (by lia) ?_;refine fR [.b false,.v (aj kb pb)] [.fork (([V.loc 9]:List V).length+1≤500∧([aj kb pb]:List V).length+1≤500∧True) false,.pick True [aj kb pb] 0,.ok cY ((.next,cG),FF (.list pre [.loc 9,.loc (11+1)]) .none {w with t:=w.t+1} (Qv (kI (aj kb pb))++[bx kb (aj kb pb) (.int 0) (.loc (11+2)),.inst 463 11,.list [] []]))] rl hX (by have:=ok.t;lia) (.fk ⟨by decide,tC _,trivial⟩ rfl (.pk trivial 0 rfl rfl (by exact qo rfl) (.ok bq ?_))) kr;refine gB (w:={w with t:=w.t+1}) (T:=Qv (kI (aj kb pb))) (node2:=aj kb pb) (tr:=[10]) (zs:=[]) (d:=11) rl hb hX (by assumption) (ok.le (by exact kU) (qf _)).tick rfl rfl
  (fun σ _=>.cons rfl (.dict (.cons (.closed rfl) (.cons (.closed rfl) (.cons (.closed rfl) (.cons (.closed rfl) (.cons (.closed rfl) (.cons (.loc rfl) (.cons (.closed rfl) .nil)))))))) (.cons rfl (.inst 463 rfl) (.cons rfl (.fix rfl) .nil)))
  rfl rfl rfl (fun σ _=>.closed rfl) (fun i o e=> ?_) rfl (fun bh w' en=> ?_)
 ·match i with
  |0=>obtain rfl:=qc e;rfl
  |1=>obtain rfl:=qc e;rfl
  |2=>obtain rfl:=qc e;rfl
  |i+3=>exact nn e
 have cl:=en.cl ok.aa;obtain⟨m1,w1⟩:=r;induction w1 using bu.casesOn with
 |raise z=>
  obtain⟨e,_,_,rfl⟩:=en.way;exact dI (state:=.int 1) (X:=[.list [] []]) rl hX cl.1 cl.2 (h _ _ (en.gU.up (by exact qK _)))
 |val x=>
  have hw:bh=aC "value" x.v:=en.way;subst hw;have fS:aW 1 0 w':=en.ok (c':=1) (m:=0) (aW.tick (ok.le (by exact iS) (by simp)));refine fR [.b true] [.fork (([V.loc 9]:List V).length+1≤500∧([aj kb pb]:List V).length+1≤500∧True) true,.ok True ((.next,cG),FF (.list pre []) (.loc 12) {w' with t:=w'.t+1} (Qv (kI (aj kb pb))++[dZ "value" x.v,.inst 441 11]))] rl hX (by have:=fS.t;assumption) (.fk ⟨by decide,tC _,trivial⟩ rfl (.ok trivial ?_)) (by induction x using Val.casesOn<;>kernel_rfl)
  exact fq (w:={w' with t:=w'.t+1}) (bh:=aC "value" x.v) (zs:=[12,11]) rfl (fun σ _=>eO (j:=12) (d:=11) (v:=x.v) (by exact ms) (by exact kL) rfl rfl (.closed (bO x))) fS.aa fS.md.closed (h _ _ (en.gU.fin fS.md))
end
section
variable{K:Frag}
noncomputable def vp(a b:Val):V:=.tup [a.v,.str "===",.lst [b.v],.none,.str "call"]
noncomputable def oU(a b:Val):Rd:=([.asked a b],cL a b)
theorem sr(a b:Val):aJ (vp a b)=true:=by induction a using Val.casesOn<;>rfl
theorem Kg(a b:Val)(s:Str):cL a b≠.raise (.str s):=by
 unfold cL
 split<;>exact fun h=>by cases h
theorem vq(rl:bL L k)(hn:0<n)(oka:a.ok)(eN:b.ok):iP (az p wo K n) L 0 1 "sending" (vp a b) (oU a b):=by
 intro w ok B pre N hX hp h;have ln:w.aa.length+1≤400:=ok.len;have cm:bB (cR.all (.asked a b) w.aa)=true:=fO ok.aa (gx [.asked a b]);have tt:w.t+1≤w.t+(1:Nat):=Int.le_refl _;refine cj rl hX (by rw[bU];exact dU) ?_;refine ck (t:=w.t) kr (nd (p:=cY) kr bq) kr (by have:=ok.t;assumption) ?_;refine ie [b.v] 0 0 b.v kr (nd (p:=cY) kr bq) rfl rfl (by exact qo rfl) ?_;refine yj (.asked a b) 5 hn kr (gY kr) (k+38) kr (qg 8 (k+30)) ⟨oka,eN⟩ (mk:=w.aa) kr (DL ok.aa ln) ?_;rw[show cR.val (.asked a b)=(cL a b).v from rfl];have hw:(oU a b).2=cL a b:=rfl;generalize cL a b=y at hw⊢;induction y using bu.casesOn with
 |val y=>
  refine kC (st:=FF (.list pre []) (.loc 12) {w with t:=w.t+1,aa:=cR.all (.asked a b) w.aa} (iC "sending" (vp a b)++[dZ "value" y.v,.inst 441 11])) kr (gY kr) kr kr kr ?_;exact fq (bh:=aC "value" y.v) (zs:=[12,11]) rfl (fun σ _=>eO (j:=12) (d:=11) (v:=y.v) (by exact ms) (by exact kL) rfl rfl (.closed (bO y))) cm ok.md.closed (h _ _ ⟨by rw[hw];rfl,rfl,tt,.inl ok.md⟩)
 |raise z=>
  induction z using Rz.casesOn with
  |int j=>
   refine kC (st:=FF (.list pre []) (.loc 12) {w with t:=w.t+1,aa:=cR.all (.asked a b) w.aa} (iC "sending" (vp a b)++[dZ "raise" (.int j),.inst 441 11])) kr (gY kr) kr kr kr ?_;exact fq (bh:=aC "raise" (.int j)) (zs:=[12,11]) rfl (fun σ _=>eO (j:=12) (d:=11) (v:=.int j) (by exact ms) (by exact kL) rfl rfl (.closed rfl)) cm ok.md.closed (h _ _ ⟨by rw[hw];exact⟨_,rfl,rfl,rfl⟩,rfl,tt,.inl ok.md⟩)
  |str s=>exact absurd hw (Kg a b s)
theorem ND(rl:bL L k):iP (az p wo K n) L 0 1 "settle" (.tup [aj "t_local" (.tup [.str nm]),x.v]) ([.bound nm x],.val x):=by
 intro w ok B pre N hX hp h;have ln:w.aa.length+1≤400:=ok.len;have cm:bB (w.aa++[Mark.v (.bound nm x)])=true:=fO ok.aa (gx [.bound nm x]);have tt:w.t+1≤w.t+(1:Nat):=Int.le_refl _;refine cj rl hX (by rw[bU];exact dU) ?_;refine ck (t:=w.t) kr (nd (p:=([V.loc 9]:List V).length+1≤500∧True) kr bq) kr (by have:=ok.t;lia) ?_;refine bC (p:=([V.loc 9]:List V).length+1≤500∧w.aa.length<500∧True) (st:=FF (.list pre []) (.loc 12) {w with t:=w.t+1,aa:=w.aa++[Mark.v (.bound nm x)]} (iC "settle" (.tup [aj "t_local" (.tup [.str nm]),x.v])++[dZ "value" x.v,.inst 441 11])) (by induction x using Val.casesOn<;>exact⟨kr,kr,kr,kr,kr⟩) ⟨bq.1,by exact wg ‹_›,trivial⟩ ?_
 exact fq (w:={w with t:=w.t+1,aa:=w.aa++[Mark.v (.bound nm x)]}) (bh:=aC "value" x.v) (zs:=[12,11]) rfl (fun σ _=>eO (j:=12) (d:=11) (v:=x.v) (by exact ms) (by exact kL) rfl rfl (.closed (bO x))) cm ok.md.closed (h _ _ ⟨rfl,rfl,tt,.inl ok.md⟩)
end
noncomputable def su(ay:V)(a:Int)(l r:Nat):AO:=.dict [("subject",ay),("items",.loc l),("rows",.loc r),("at",.int a)]
noncomputable def mT(kind:Str)(node state:V)(ay:Val)(a:Int):St:=[bx kind node state (.loc 11),.inst 463 8,su ay.v a 12 13,.inst 708 10,.list [] [],.dict []]
noncomputable abbrev SK(kind:Str)(node:V)(ay:Val):St:=mT kind node (.int 0) ay 0
def xj(cx:Cx)(L:Lp)(hg n:Nat)(kind:Str)(node:V)(ay:Val)(r:Rd):Prop:=∀w,aW n r.1.length w→AX cx L hg (SK kind node ay) w .none n (bJ r n w)
theorem AZ(hs:kF 14 state=true)(i:Nat)(o:AO)(e:(mT kind (aj kd qY) state ay a)[i]? =some o):nU (8+(mT kind (aj kd qY) state ay a).length) o=true:=by
 exact pL (P:=fun o=>nU 14 o=true) (by show eW (kF 14 state) true=true;rw[hs];rfl) (pL rfl (pL (by cases ay<;>rfl) (pL rfl (pL rfl (pL rfl SJ))))) i o e
theorem A0{aD:List Nat}{z:Nat→Prop}{σ:Nat→Addr}{st:St}(hn:aJ node=true)(hs:aJ state=true)(h8:aD[8]? =some 8)(ou:aD[10]? =some 10)(A1:aD[11]? =some 11)(vY:aD[12]? =some 12)(yT:aD[13]? =some 13)
  (e:∀i o,(mT kind node state ay a)[i]? =some o→st[8+i]? =some o):uI aD z σ st [8,9,10,11,12,13] (mT kind node state ay a):=
 .cons (e 0 _ rfl) (.dict (.cons (.closed kr) (.cons (.closed hn) (.cons (.closed rfl) (.cons (.closed rfl) (.cons (.closed hs) (.cons (.loc A1) (.cons (.closed rfl) .nil))))))))
  (.cons (e 1 _ rfl) (.inst 463 h8) (.cons (e 2 _ rfl) (.dict (.cons (.closed (bO ay)) (.cons (.loc vY) (.cons (.loc yT) (.cons (.closed rfl) .nil)))))
   (.cons (e 3 _ rfl) (.inst 708 ou) (.cons (e 4 _ rfl) (.fix rfl) (.cons (e 5 _ rfl) (.fix rfl) .nil)))))
section
variable{K:Frag}
noncomputable def tG(r:Rd)(ay:Val):Rd:=match r with
 |(mk,.raise z)=>(mk,.raise z)
 |(mk,.val x)=>match cL x ay with
  |.raise z=>(mk++[.asked x ay],.raise z)
  |.val y=>(mk++[.asked x ay],.val (.bool y.holds))
theorem NF{kb:Str}{pb:V}(rl:bL L k)(hn:0<n)(jH:ay.ok)(iV:CX r.2)(hb:iP (az p wo K n) L 0 1 kb (aj kb pb) r):xj (az p wo K n) L 1 5 "p_value" (aj "p_value" (.tup [aj kb pb])) ay (tG r ay):=by
 intro w ok B pre N hX hp h;obtain⟨m1,w1⟩:=r;have l1:m1.length≤(tG (m1,w1) ay).1.length:=by
  induction w1 using bu.casesOn with
  |raise z=>exact qf _
  |val x=>unfold tG;dsimp only;induction cL x ay using bu.casesOn<;>simp
 refine At.le (N:=(N+3+1)+1) (by exact iS) ?_;refine fR [] [.ok (([V.loc 9]:List V).length+1≤500∧cY) ((.next,cG),FF (.list pre [.loc 9,.loc (14+1)]) .none {w with t:=w.t+1} (mT "p_value" (aj "p_value" (.tup [aj kb pb])) (.str "value") ay 0++[bx kb (aj kb pb) (.int 0) (.loc (14+2)),.inst 463 14,.list [] []]))] rl hX (by have:=ok.t;lia) (.ok ⟨bq.1,bq⟩ ?_) kr;refine gB (N:=N+3) (c:=1) (w:={w with t:=w.t+1}) (T:=mT "p_value" (aj "p_value" (.tup [aj kb pb])) (.str "value") ay 0) (node2:=aj kb pb) (tr:=[10,11,12,13]) (zs:=[]) (d:=14) rl hb hX (by assumption) (ok.le (c':=2) (by exact dU) l1).tick rfl rfl
  (fun σ _=>A0 rfl rfl rfl rfl rfl rfl rfl fun i o e=>by
   rw[kB,qB (List.getElem?_eq_some_iff.mp e).1];exact e)
  rfl rfl rfl (fun σ _=>.closed rfl) (AZ rfl) rfl (fun bh w' en=> ?_)
 have et:w'.t≤w.t+1+1:=en.t;have ot:=ok.t;induction w1 using bu.casesOn with
 |raise z=>
  have cl:=en.cl ok.aa;obtain⟨e,ce,ze,rfl⟩:=en.way;exact At.le (N:=N+1) (qp _ 2) (dI rl hX cl.1 cl.2 (h _ _ (en.gU.up (by exact dU))))
 |val x=>
  have fD:x.ok:=iV;have hw:bh=aC "value" x.v:=en.way;subst hw;have fS:aW 3 1 w':=en.ok (c':=3) (m:=1) (aW.tick (ok.le (by exact iS) (by show m1.length+1≤_;unfold tG;dsimp only;induction cL x ay using bu.casesOn<;>simp)))
  refine At.le (N:=(N+1+1)+1) (by exact iS) ?_;refine fR [] [.ok (([V.loc 9]:List V).length+1≤500∧cY) ((.next,cG),FF (.list pre [.loc 9,.loc (15+1)]) .none {w' with t:=w'.t+1} (mT "p_value" (aj "p_value" (.tup [aj kb pb])) (.str "asked") ay 0++[.list [] [ay.v],bx "sending" (.tup [x.v,.str "===",.loc 14,.none,.str "call"]) (.int 0) (.loc (15+2)),.inst 463 15,.list [] []]))] rl hX (by have:=fS.t;lia) (.ok ⟨bq.1,bq⟩ ?_) (by induction x using Val.casesOn<;>induction ay using Val.casesOn<;>kernel_rfl)
  refine gB (N:=N+1) (c:=1) (w:={w' with t:=w'.t+1}) (T:=mT "p_value" (aj "p_value" (.tup [aj kb pb])) (.str "asked") ay 0) (node:=vp x ay) (node2:=.tup [x.v,.str "===",.loc 14,.none,.str "call"]) (tr:=[10,11,12,13]) (zs:=[14]) (d:=15) rl (vq rl hn fD jH) hX (by lia) (aW.tick (fS.le (by exact kU) (qf _))) (sr x ay) rfl
   (fun σ _=>A0 rfl rfl rfl rfl rfl rfl rfl fun i o e=>by
    rw[kB,qB (List.getElem?_eq_some_iff.mp e).1];exact e)
   rfl rfl rfl (fun σ _=>.tup (.cons (.closed (bO x)) (.cons (.closed rfl) (.cons (.lst (by exact ms) rfl (.cons (.closed (bO ay)) .nil)) (.cons (.closed rfl) (.cons (.closed rfl) .nil)))))) (AZ rfl) rfl (fun nZ w2 cV=> ?_)
  have xm:=cV.cl fS.aa;have et2:w2.t≤w'.t+1+1:=cV.t;have em:w2.aa=w.aa++(m1++[Mark.asked x ay]).map Mark.v:=by rw[cV.aa];show w'.aa++_=_;rw[en.aa];simp[oU]
  have hy:∀y,cL x ay=y→o9 y nZ:=fun y e=>by rw[←e];exact cV.way
  have hl:∀y,cL x ay=y→tG (m1,.val x) ay=(m1++[Mark.asked x ay],match y with|.raise z=>.raise z|.val y=>.val (.bool y.holds)):=fun y e=>by unfold tG;dsimp only;rw[e];induction y using bu.casesOn<;>rfl
  induction e:cL x ay using bu.casesOn with
  |raise z=>
   obtain⟨e',ce,ze,rfl⟩:=hy _ e;exact dI rl hX xm.1 xm.2 (h _ _ ⟨by rw[hl _ e];exact⟨e',ce,ze,rfl⟩,by rw[hl _ e];exact em,(en.gU.chain cV.gU (cc:=5) (by exact dU)).t,cV.md⟩)
  |val y=>
   have hw:nZ=aC "value" y.v:=hy _ e;subst hw;have mD:aW 1 0 w2:=cV.ok (c':=1) (m:=0) (aW.tick (fS.le (by exact iS) (qf _)));refine cj rl hX (by rw[bU];exact dU) ?_;refine ck (t:=w2.t) kr (nd (p:=cY) kr bq) kr (by have:=mD.t;assumption) ?_;refine bC (p:=cY) (st:=FF (.list pre []) (.loc 15) {w2 with t:=w2.t+1} (mT "p_value" (aj "p_value" (.tup [aj kb pb])) (.str "asked") ay 0++[dZ "value" (.bool y.holds),.inst 441 14])) (by
    induction y using Val.casesOn with
    |none=>exact⟨kr,kr,kr,kr,kr⟩
    |int i=>exact⟨kr,kr,kr,kr,kr⟩
    |bool b=>exact⟨kr,kr,kr,kr,kr⟩) bq ?_
   exact fq (w:={w2 with t:=w2.t+1}) (bh:=aC "value" (.bool y.holds)) (zs:=[15,14]) rfl (fun σ _=>eO (j:=15) (d:=14) (v:=.bool y.holds) (by exact ms) (by exact kL) rfl rfl (.closed rfl)) mD.aa mD.md.closed (h _ _ ⟨by rw[hl _ e];rfl,by rw[hl _ e];exact em,tD (en.gU.chain cV.gU (cc:=4) (by exact dU)).t (by exact dU),.inl mD.md⟩)
end
noncomputable def mP(t:Nat)(kind:Str)(node:V)(ay:Val):St:=[bx kind node (.int 0) (.loc (8+t+3)),.inst 463 (8+t),su ay.v 0 (8+t+4) (8+t+5),.inst 708 (8+t+2),.list [] [],.dict []]
theorem Zx{st:St}{kind:Str}{node:V}{ay:Val}(hn:aJ node=true)(i:Nat)(o o':AO)(e:(mP t kind node ay)[i]? =some o)(e':(SK kind node ay)[i]? =some o'):mO 8 (kJ t 6) z σ st o o':=by
 exact vo (P:=mO 8 (kJ t 6) z σ st) (.dict (.cons (.closed kr) (.cons (.closed hn) (.cons (.closed rfl) (.cons (.closed rfl) (.cons (.closed rfl) (.cons (.loc (nA t 6 3 (by decide))) (.cons (.closed rfl) .nil))))))))
  (vo (.inst 463 (nA t 6 0 (by decide))) (vo (.dict (.cons (.closed (bO ay)) (.cons (.loc (nA t 6 4 (by decide))) (.cons (.loc (nA t 6 5 (by decide))) (.cons (.closed rfl) .nil)))))
  (vo (.inst 708 (nA t 6 2 (by decide))) (vo (.fix rfl) (vo (.fix rfl) Xd))))) i o o' e e'
section
variable{K:Frag}
theorem sy(rl:bL L k)(ev:xj (az p wo K n) L hg c kind node ay r)(hX:∀b,aF L.env b→B.X b)(hp:pre.length+hg+1≤1000)
  (ok:aW c r.1.length w)(hn:aJ node=true)(hz:t9 ((8::9::tr)++[d,d+1,d+3,d+4,d+5,d+6]) zs=true)
  (hT:∀σ,(∀k,k<(FF (.list pre [.loc 9,.loc (d+1)]) .none w X).length→σ k≠sysModules)→uI (gD ((8::9::tr)++[d,d+1,d+3,d+4,d+5,d+6])) (· ∈zs) σ (FF (.list pre [.loc 9,.loc (d+1)]) .none w X) (8::9::tr) T)
  (e0:(FF (.list pre [.loc 9,.loc (d+1)]) .none w X)[d]? =some (bx kind node (.int 0) (.loc (d+4))))(e1:(FF (.list pre [.loc 9,.loc (d+1)]) .none w X)[d+1]? =some (.inst 463 d))
  (e2:(FF (.list pre [.loc 9,.loc (d+1)]) .none w X)[d+3]? =some (su ay.v 0 (d+5) (d+6)))(e3:(FF (.list pre [.loc 9,.loc (d+1)]) .none w X)[d+4]? =some (.inst 708 (d+3)))
  (e4:(FF (.list pre [.loc 9,.loc (d+1)]) .none w X)[d+5]? =some (.list [] []))(e5:(FF (.list pre [.loc 9,.loc (d+1)]) .none w X)[d+6]? =some (.dict []))
  (FW:∀(k:Nat) (o:AO),T[k]? =some o→nU (8+T.length) o=true)(C8:T.length=tr.length+2)
  (hk:∀bh w',bJ r c w bh w'→At (az p wo K n) L 8 B (FF (.list pre [.loc 9]) bh w' T) N):fZ (az p wo K n) L B (N+c) (FF (.list pre [.loc 9,.loc (d+1)]) .none w X):=by
 intro σ hs;have hi:∀i,(gD ((8::9::tr)++[d,d+1,d+3,d+4,d+5,d+6]))[8+T.length+i]? =([d,d+1,d+3,d+4,d+5,d+6]:List Nat)[i]? :=fun i=>by
  rw[show 8+T.length+i=8+(T.length+i)from by exact Nat.add_assoc _ _ _,xh,qx (by simp;lia)]
  congr 1
  simp;lia
 refine⟨gD ((8::9::tr)++[d,d+1,d+3,d+4,d+5,d+6]),(· ∈zs),FF (.list pre [.loc 9,.loc (8+T.length+1)]) .none w (T++mP T.length kind node ay), ?_, ?_⟩
 ·refine nW (lZ:=w.md) hz (.closed rfl) (.cons (.loc rfl) (.cons (.loc (hi 1)) .nil)) ok.aa (fj ok.md.closed) (mw.append (hT σ hs) (.cons e0 ?_ (.cons e1 (.inst 463 (hi 0)) (.cons e2 ?_ (.cons e3 (.inst 708 (hi 2)) (.cons e4 (.fix rfl) (.cons e5 (.fix rfl) .nil)))))))
  ·exact .dict (.cons (.closed kr) (.cons (.closed hn) (.cons (.closed rfl) (.cons (.closed rfl) (.cons (.closed rfl) (.cons (.loc (hi 3)) (.cons (.closed rfl) .nil)))))))
  ·exact .dict (.cons (.closed (bO ay)) (.cons (.loc (hi 4)) (.cons (.loc (hi 5)) (.cons (.closed rfl) .nil))))
 ·exact Cc rl.toIsRun (ev w ok) hX hp ⟨rfl,ok.aa,ok.md.closed⟩ FW (by lia) rfl (by show 2≤6;exact dU) (fun σ i o o' e e'=>Zx hn i o o' e e') hk
theorem Qw(rl:bL L k):xj (az p wo K n) L 1 3 "p_bind" (aj "p_bind" (.tup [.str nm])) ay ([.bound nm ay],.val (.bool true)):=by
 intro w ok B pre N hX hp h;have ot:=ok.t;refine At.le (N:=(N+1+1)+1) (by exact iS) ?_;refine fR [] [.ok (([V.loc 9]:List V).length+1≤500∧cY) ((.next,cG),FF (.list pre [.loc 9,.loc (16+1)]) .none {w with t:=w.t+1} (mT "p_bind" (aj "p_bind" (.tup [.str nm])) (.str "bound") ay 0++[.dict [(("kind":Str),.str "t_local"),(("parts":Str),.tup [.str nm]),(("line":Str),.int 0),(("own":Str),.none)],.inst 687 14,bx "settle" (.tup [.loc 15,ay.v]) (.int 0) (.loc (16+2)),.inst 463 16,.list [] []]))] rl hX (by lia) (.ok ⟨bq.1,bq⟩ ?_) (by induction ay using Val.casesOn<;>kernel_rfl)
 refine gB (N:=N+1) (c:=1) (w:={w with t:=w.t+1}) (T:=mT "p_bind" (aj "p_bind" (.tup [.str nm])) (.str "bound") ay 0) (node:=.tup [aj "t_local" (.tup [.str nm]),ay.v]) (node2:=.tup [.loc 15,ay.v]) (tr:=[10,11,12,13]) (zs:=[14,15]) (d:=16) rl (ND rl) hX (by assumption) (aW.tick (ok.le (by exact kU) (qf _))) (by induction ay using Val.casesOn<;>rfl) rfl
  (fun σ _=>A0 rfl rfl rfl rfl rfl rfl rfl fun i o e=>by
   rw[kB,qB (List.getElem?_eq_some_iff.mp e).1];exact e)
  rfl rfl rfl (fun σ _=>.tup (.cons (.inst (k:=15) (d:=14) (by exact kL) (by exact ms) rfl rfl (fj rfl)) (.cons (.closed (bO ay)) .nil))) (AZ rfl) rfl (fun bh w' en=> ?_)
 have hw:bh=aC "value" ay.v:=en.way;subst hw;have fS:aW 1 0 w':=en.ok (c':=1) (m:=0) (aW.tick (ok.le (by exact iS) (qf _)));refine fR [] [.ok cY ((.next,cG),FF (.list pre []) (.loc 15) {w' with t:=w'.t+1} (mT "p_bind" (aj "p_bind" (.tup [.str nm])) (.str "bound") ay 0++[dZ "value" (.bool true),.inst 441 14]))] rl hX (by have:=fS.t;assumption) (.ok bq ?_) kr;exact fq (w:={w' with t:=w'.t+1}) (bh:=aC "value" (.bool true)) (zs:=[15,14]) rfl (fun σ _=>eO (j:=15) (d:=14) (v:=.bool true) (by exact ms) (by exact kL) rfl rfl (.closed rfl)) fS.aa fS.md.closed (h _ _ ⟨rfl,en.aa,tB en.t (qf _),.inl fS.md⟩)
end
noncomputable def d7(r:List Mark×ff):Rd:=(r.1,match r.2 with|.raise z=>.raise z|.val b=>.val (.bool b))
theorem Qx(l:aH)(ay:Val):tG l.rd ay=d7 (l.fits ay):=by
 unfold tG d7 aH.fits;induction l.rd using qn with
 |mk m w=>induction w using bu.casesOn with
  |raise z=>rfl
  |val x=>dsimp only;induction cL x ay using bu.casesOn<;>rfl
noncomputable def Kh(f:Bool):V:=match f with|true=>.int 0|false=>.str "matched"
noncomputable def Qy(f:Bool):V:=match f with|true=>.none|false=>aC "value" (.bool false)
noncomputable def uc(ls:List aH):V:=aj "p_alt" (.tup [.lst (ls.map mu)])
section
variable{K:Frag}
theorem Cf(rl:bL L k)(hn:0<n)(l:aH)(ok:l.ok):∃kb pb,l.node=aj kb pb∧iP (az p wo K n) L 0 1 kb (aj kb pb) l.rd:=by
 induction l using aH.casesOn with
 |int i=>exact⟨"int",_,rfl,NB rl hn ok⟩
 |nil=>exact⟨"nil",_,rfl,Nz rl⟩
 |gZ i=>exact⟨"ivar",_,rfl,Ij rl⟩
theorem NG(rl:bL L k)(hn:0<n)(ok:l.ok)(jH:ay.ok):xj (az p wo K n) L 1 5 "p_value" (mu l) ay (d7 (l.fits ay)):=by
 obtain⟨kb,pb,e,h⟩:=Cf (p:=p) (wo:=wo) (K:=K) rl hn l ok;rw[←Qx];unfold mu;rw[e];exact NF rl hn jH (w7 ok).w.w h
theorem FY(ok:aW (c+1) m w)(hl:ls.length≤3)(hb:decide ((a:Int)=Int.ofNat (ls.map mu).length)=b)
  (hk:Gd (dR n) aI (ah (ah (bT p wo K n k (FF (.list pre [.loc 9]) (Qy f) w (mT "p_alt" (uc ls) (Kh f) ay a))) false) b) Q):Gd (dR n) aI (bT p wo K n k (FF (.list pre [.loc 9]) (Qy f) w (mT "p_alt" (uc ls) (Kh f) ay a))) Q:=by
 refine ck (t:=w.t) (by induction f using qd<;>kernel_rfl) (nd (p:=cY) (by induction f using qd<;>kernel_rfl) bq) (by induction f using qd<;>kernel_rfl) (by have:=ok.t;lia) ?_
 exact sq (b:=b) (by induction f using qd<;>kernel_rfl) (nd (p:=([V.loc 9]:List V).length+1≤500∧(ls.map mu).length+1≤500∧True) (by induction f using qd<;>kernel_rfl) ⟨by decide,by simp;exact wg ‹_›,trivial⟩) (Eq.trans (b:=decide ((a:Int)=Int.ofNat (ls.map mu).length)) (by induction f using qd<;>kernel_rfl) hb) hk
theorem xo(l:aH)(b:List aH)(ay:Val):(l.fits ay).1.length≤(cU ay (l::b)).1.length:=by
 rw[cU.eq_2];induction l.fits ay using qn with
 |mk m g=>induction g using ff.casesOn with
  |raise z=>exact qf _
  |val bb=>induction bb using qd<;>simp
theorem UN(rl:bL L k)(hX:∀b,aF L.env b→B.X b)(en:bJ (d7 (l.fits ay)) 5 w bh w')(ok:aW (6*b.length+6) (cU ay (l::b)).1.length w)
  (h:∀bh w',bJ (d7 (cU ay (l::b))) (6*b.length+6) w bh w'→At (az p wo K n) L 8 B (FF (.list pre []) bh w' []) N)
  (H:aW (6*b.length+1) (cU ay b).1.length w'→(∀nZ w2,bJ (d7 (cU ay b)) (6*b.length+1) w' nZ w2→At (az p wo K n) L 8 B (FF (.list pre []) nZ w2 []) N)→
   At (az p wo K n) L 8 B (FF (.list pre [.loc 9]) (aC "value" (.bool false)) w' (mT "p_alt" (uc ls) (.str "matched") ay a)) (N+(6*b.length+1))):
  At (az p wo K n) L 8 B (FF (.list pre [.loc 9]) bh w' (mT "p_alt" (uc ls) (.str "matched") ay a)) (N+(6*b.length+1)):=by
 have jO:w'.aa=w.aa++(l.fits ay).1.map Mark.v:=en.aa;have hw:o9 (d7 (l.fits ay)).2 bh:=en.way;have cl:=en.cl ok.aa;induction hf:l.fits ay using qn with
 |mk m g=>
  rw[hf]at jO hw;induction g using ff.casesOn with
  |raise z=>
   have hA:cU ay (l::b)=(m,.raise z):=by rw[cU.eq_2,hf]
   rw[hA]at h;obtain⟨e,ce,ze,rfl⟩:=hw;exact At.le (N:=N+1) (by lia) (dI rl hX cl.1 cl.2 (h _ _ ⟨⟨e,ce,ze,rfl⟩,jO,(en.up dU).t,en.md⟩))
  |val bb=>
   induction bb using qd with
   |true=>
    have hA:cU ay (l::b)=(m,.val true):=by rw[cU.eq_2,hf]
    have hw:bh=aC "value" (.bool true):=hw;subst hw;have yM:aW 1 0 w':=en.ok (c':=1) (m:=0) (ok.le (by exact dU) (xo l b ay));rw[hA]at h;refine At.le (N:=N+1) (by lia) (cj rl hX (by rw[bU];exact dU) ?_);refine ck (t:=w'.t) kr (nd (p:=cY) kr bq) kr (by have:=yM.t;assumption) ?_;refine kC (st:=FF (.list pre []) (.loc 15) {w' with t:=w'.t+1} (mT "p_alt" (uc ls) (.str "matched") ay a++[dZ "value" (.bool true),.inst 441 14])) kr (nd (p:=cY) kr bq) kr kr kr ?_;exact fq (w:={w' with t:=w'.t+1}) (bh:=aC "value" (.bool true)) (zs:=[15,14]) rfl (fun σ _=>eO (j:=15) (d:=14) (v:=.bool true) (by exact ms) (by exact kL) rfl rfl (.closed rfl)) yM.aa yM.md.closed (h _ _ ⟨rfl,jO,tD en.t dU,.inl yM.md⟩)
   |false=>
    have hA:cU ay (l::b)=(m++(cU ay b).1,(cU ay b).2):=by rw[cU.eq_2,hf]
    have hw:bh=aC "value" (.bool false):=hw;subst hw;rw[hA]at h ok;exact H (en.ok (c':=6*b.length+1) (m:=(cU ay b).1.length) (ok.le (by lia) (by show(l.fits ay).1.length+_≤_;rw[hf];simp))) fun nZ w2 cV=>h _ _ ⟨cV.way,by rw[cV.aa,jO];simp[d7],(en.chain cV (cc:=6*b.length+6) (qA (Nat.add_comm ..))).t,cV.md⟩
theorem UO(rl:bL L k)(hn:0<n)(jH:ay.ok)(hl:ls.length≤3)(hX:∀b,aF L.env b→B.X b)(hp:pre.length+2≤1000)(b:List aH):
  ∀(a:Nat) (f:Bool) (w:Ws),ls.drop a=b→a≤ls.length→(∀l∈b,l.ok)→aW (6*b.length+1) (cU ay b).1.length w→
   (∀bh w',bJ (d7 (cU ay b)) (6*b.length+1) w bh w'→At (az p wo K n) L 8 B (FF (.list pre []) bh w' []) N)→
   At (az p wo K n) L 8 B (FF (.list pre [.loc 9]) (Qy f) w (mT "p_alt" (uc ls) (Kh f) ay a)) (N+(6*b.length+1)):=by
 induction b with
 |nil=>
  intro a f w hd ha eN ok h;have la:ls.length=a:=by
   have:=congrArg List.length hd;simp at this;lia
  refine cj rl hX (by rw[bU];exact dU) ?_;refine FY (c:=0) ok hl (b:=true) (decide_eq_true (by rw[List.length_map,la];rfl)) ?_;refine bC (p:=True) (st:=FF (.list pre []) (.loc 15) {w with t:=w.t+1} (mT "p_alt" (uc ls) (Kh f) ay a++[dZ "value" (.bool false),.inst 441 14])) (by induction f using qd<;>exact⟨kr,kr,kr,kr,kr⟩) trivial ?_
  refine fq (w:={w with t:=w.t+1}) (bh:=aC "value" (.bool false)) (zs:=[15,14]) rfl (fun σ _=>eO (j:=15) (d:=14) (v:=.bool false) (by exact ms) (by exact kL) rfl rfl (.closed rfl)) ok.aa ok.md.closed (h _ _ ⟨rfl, ?_,by show w.t+1≤_;simp,.inl ok.md⟩);show w.aa=w.aa++[];exact(List.append_nil _).symm
 |cons l b ih=>
  intro a f w hd ha eN ok h;have la:a<ls.length:=by
   have:=congrArg List.length hd;simp at this;lia
  have NH:ls[a]? =some l:=by
   have:=congrArg (·[0]?) hd
   simpa using this
  have Xg:ls.drop (a+1)=b:=by rw[←List.drop_drop,hd];rfl
  have ot:=ok.t;simp only[List.length_cons]at ok h ot⊢;refine At.le (N:=(N+(6*b.length+1)+5)+1) (by exact iS) ?_;refine cj rl hX (by rw[bU];lia) ?_;refine FY (c:=6*b.length+6) (ok.le (by exact iS) (qf _)) hl (b:=false) (decide_eq_false (by rw[List.length_map];intro q;have q:(a:Int)=(ls.length:Int):=q;lia)) ?_;refine ie (ls.map mu) ((a:Int)+1-1) a (mu l) (by induction f using qd<;>kernel_rfl) (gY (by induction f using qd<;>kernel_rfl)) (by show(a:Int)+1-1=(a:Int);simp) (by rw[List.getElem?_map,NH];rfl) (by simp;lia) ?_
  refine bC (p:=cY) (st:=FF (.list pre [.loc 9,.loc (14+1)]) .none {w with t:=w.t+1} (mT "p_alt" (uc ls) (.str "matched") ay (a+1:Nat)++[bx "p_value" (mu l) (.int 0) (.loc (14+4)),.inst 463 14,.list [] [],su ay.v 0 (14+5) (14+6),.inst 708 (14+3),.list [] [],.dict []])) (by induction f using qd<;>induction ay using Val.casesOn<;>exact⟨kr,kr,kr,kr,kr⟩) bq ?_
  refine sy (N:=N+(6*b.length+1)) (c:=5) (w:={w with t:=w.t+1}) (T:=mT "p_alt" (uc ls) (.str "matched") ay (a+1:Nat)) (tr:=[10,11,12,13]) (zs:=[]) (d:=14) rl (NG rl hn (eN l (qi)) jH) hX (by assumption) (aW.tick (ok.le (by exact dU) (xo l b ay))) rfl rfl
   (fun σ _=>A0 rfl rfl rfl rfl rfl rfl rfl fun i o e=>by
    rw[kB,qB (List.getElem?_eq_some_iff.mp e).1];exact e)
   rfl rfl rfl rfl rfl rfl (AZ rfl) rfl (fun bh w' en=> ?_)
  exact UN rl hX en (aW.tick (ok.le (by lia) (qf _))) (fun nZ w2 cV=>h _ _ cV.gU) fun iV h=>ih (a+1) false w' Xg (by assumption) (fun x hx=>eN x (qj _ hx)) iV h
theorem UP(rl:bL L k)(hn:0<n)(jH:ay.ok)(lI:(cK.alt ls).ok):xj (az p wo K n) L 2 19 "p_alt" (uc ls) ay (d7 (cU ay ls)):=by
 intro w ok B pre N hX hp h;have hl:ls.length≤3:=lI.1;exact At.le (N:=N+(6*ls.length+1)) (by lia) (UO rl hn jH hl hX (by assumption) ls 0 true w rfl (qm _) lI.2 (ok.le (by lia) (qf _)) fun bh w' en=>h bh w' (en.up (by lia)))
end
noncomputable def tT(kind:Str)(node state:V):St:=[bx kind node state (.loc 10),.inst 463 8,.list [] []]
theorem uJ(hs:kF 11 state=true)(i:Nat)(o:AO)(e:(tT kind (aj kd qY) state)[i]? =some o):nU (8+(tT kind (aj kd qY) state).length) o=true:=by
 exact pL (P:=fun o=>nU 11 o=true) (by show eW (kF 11 state) true=true;rw[hs];rfl) (pL rfl (pL rfl SJ)) i o e
theorem uK{st:St}{kind:Str}{node state:V}(hn:aJ node=true)(hs:aJ state=true)(h8:aD[8]? =some 8)(ou:aD[10]? =some 10)
  (e:∀i o,(tT kind node state)[i]? =some o→st[8+i]? =some o):uI aD z σ st [8,9,10] (tT kind node state):=
 .cons (e 0 _ rfl) (.dict (.cons (.closed kr) (.cons (.closed hn) (.cons (.closed rfl) (.cons (.closed rfl) (.cons (.closed hs) (.cons (.loc ou) (.cons (.closed rfl) .nil))))))))
  (.cons (e 1 _ rfl) (.inst 463 h8) (.cons (e 2 _ rfl) (.fix rfl) .nil))
theorem bY(i:Nat)(o:AO)(e:T[i]? =some o):(FF vV way w (T++X))[8+i]? =some o:=by
 rw[kB,qB (List.getElem?_eq_some_iff.mp e).1];exact e
section
variable{K:Frag}
theorem FZ(rl:bL L k)(hn:0<n)(q:cK)(ok:q.ok):∃kq pq,q.node=aj kq pq∧∀x:Val,x.ok→xj (az p wo K n) L 2 19 kq (aj kq pq) x (d7 (q.fits x)):=by
 have le:∀{hg c:Nat} {kq:Str} {nq:V} {x:Val} {r:Rd},hg≤2→c≤19→xj (az p wo K n) L hg c kq nq x r→xj (az p wo K n) L 2 19 kq nq x r:=fun{hg c kq nq x r} h1 h2 ev w ok B pre N hX hp h=>
  At.le (N:=N+c) (by exact qu ‹_› _) (ev w (ok.le (by assumption) (qf _)) B pre N hX (by lia) fun u w' en=>h u w' (en.up (by assumption)))
 induction q using cK.casesOn with
 |bind m=>exact⟨"p_bind",_,rfl,fun x _=>le (by exact kU) (by exact dU) (Qw rl)⟩
 |lit l=>exact⟨"p_value",_,rfl,fun x hx=>le (by lia) (by exact dU) (NG rl hn ok hx)⟩
 |alt ls=>exact⟨"p_alt",_,rfl,fun x hx=>UP rl hn hx ok⟩
theorem Kl{pb pq:V}{r:Rd}{q:cK}(rl:bL L k)(h2:2≤hg)(iV:CX r.2)(hb:iP (az p wo K n) L hg c kb (aj kb pb) r)(hq:∀x:Val,x.ok→xj (az p wo K n) L 2 19 kq (aj kq pq) x (d7 (q.fits x))):
  iP (az p wo K n) L (hg+1) (c+22) "matchp" (aj "matchp" (.tup [aj kb pb,aj kq pq])) (dh r (gM q)):=by
 intro w ok B pre N hX hp h;obtain⟨m1,w1⟩:=r;have ot:=ok.t;have hfx:∀x,gM q x=d7 (q.fits x):=fun x=>by
  unfold gM d7;induction q.fits x using qn with
  |mk m f=>induction f using ff.casesOn<;>rfl
 have l1:m1.length≤(dh (m1,w1) (gM q)).1.length:=by
  induction w1 using bu.casesOn with
  |raise z=>exact qf _
  |val x=>simp[dh,Mine.Internal.after]
 refine At.le (N:=(N+21+c)+1) (by lia) ?_;refine fR [] [.ok (([V.loc 9]:List V).length+1≤500∧cY) ((.next,cG),FF (.list pre [.loc 9,.loc (11+1)]) .none {w with t:=w.t+1} (tT "matchp" (aj "matchp" (.tup [aj kb pb,aj kq pq])) (.str "value")++[bx kb (aj kb pb) (.int 0) (.loc (11+2)),.inst 463 11,.list [] []]))] rl hX (by lia) (.ok ⟨bq.1,bq⟩ ?_) kr;refine gB (N:=N+21) (c:=c) (w:={w with t:=w.t+1}) (T:=tT "matchp" (aj "matchp" (.tup [aj kb pb,aj kq pq])) (.str "value")) (node2:=aj kb pb) (tr:=[10]) (zs:=[]) (d:=11) rl hb hX (by assumption) (aW.tick (ok.le (by lia) l1)) rfl rfl
  (fun σ _=>uK rfl rfl rfl rfl bY) rfl rfl rfl (fun σ _=>.closed rfl) (uJ rfl) rfl (fun bh w' en=> ?_)
 induction w1 using bu.casesOn with
 |raise z=>
  have cl:=en.cl ok.aa;obtain⟨e,ce,ze,rfl⟩:=en.way;exact At.le (N:=N+1) (by lia) (dI rl hX cl.1 cl.2 (h _ _ (en.gU.up (qp _ 21))))
 |val x=>
  have fD:x.ok:=iV;have hw:bh=aC "value" x.v:=en.way;subst hw;have Xh:dh (m1,.val x) (gM q)=after m1 (d7 (q.fits x)):=by rw[←hfx];rfl
  rw[Xh]at ok h;have fS:aW 21 (d7 (q.fits x)).1.length w':=en.ok (c':=21) (aW.tick (ok.le (by exact iS) (by simp[Mine.Internal.after])));refine At.le (N:=(N+1+19)+1) (by exact iS) ?_;refine fR [] [.ok (([V.loc 9]:List V).length+1≤500∧cY) ((.next,cG),FF (.list pre [.loc 9,.loc (11+1)]) .none {w' with t:=w'.t+1} (tT "matchp" (aj "matchp" (.tup [aj kb pb,aj kq pq])) (.str "matched")++[bx kq (aj kq pq) (.int 0) (.loc (11+4)),.inst 463 11,.list [] [],su x.v 0 (11+5) (11+6),.inst 708 (11+3),.list [] [],.dict []]))] rl hX (by have:=fS.t;omega) (.ok ⟨bq.1,bq⟩ ?_) (by induction x using Val.casesOn<;>kernel_rfl)
  refine sy (N:=N+1) (c:=19) (w:={w' with t:=w'.t+1}) (T:=tT "matchp" (aj "matchp" (.tup [aj kb pb,aj kq pq])) (.str "matched")) (tr:=[10]) (zs:=[]) (d:=11) rl (hq x fD) hX (by lia) (aW.tick (fS.le (by exact kU) (qf _))) rfl rfl
   (fun σ _=>uK rfl rfl rfl rfl bY) rfl rfl rfl rfl rfl rfl (uJ rfl) rfl (fun nZ w2 cV=> ?_)
  have e3:=en.gU.chain cV.gU (qA (Nat.add_assoc c 1 20));have xm:=cV.cl fS.aa;have pN:o9 (d7 (q.fits x)).2 nZ:=cV.way;induction hf:q.fits x using qn with
  |mk m2 f=>
   rw[hf]at pN;induction f using ff.casesOn with
   |raise z=>
    obtain⟨e,ce,ze,rfl⟩:=pN;exact dI rl hX xm.1 xm.2 (h _ _ (e3.up kU))
   |val b=>
    have pN:nZ=aC "value" (.bool b):=pN;subst pN;have mD:aW 1 0 w2:=cV.ok (c':=1) (m:=0) (aW.tick (fS.le (by exact iS) (by simp)));refine fR [] [.ok cY ((.next,cG),FF (.list pre []) (.loc 12) {w2 with t:=w2.t+1} (tT "matchp" (aj "matchp" (.tup [aj kb pb,aj kq pq])) (.str "matched")++[dZ "value" (.bool b),.inst 441 11]))] rl hX (by have:=mD.t;assumption) (.ok bq ?_) kr;exact fq (w:={w2 with t:=w2.t+1}) (bh:=aC "value" (.bool b)) (zs:=[12,11]) rfl (fun σ _=>eO (j:=12) (d:=11) (v:=.bool b) (by exact ms) (by exact kL) rfl rfl (.closed rfl)) mD.aa mD.md.closed (h _ _ (e3.fin mD.md))
end
noncomputable def Cg(ay:V)(oz iR:Int)(l:Nat):AO:=.dict [("subject",ay),("arm",.int oz),("place",.int iR),("values",.loc l)]
noncomputable def cT(kind:Str)(node state:V)(ay:Val)(oz iR:Int)(vals:List V):St:=[bx kind node state (.loc 11),.inst 463 8,Cg ay.v oz iR 12,.inst 764 10,.list [] vals]
section
variable{K:Frag}
theorem zK(rl:bL L k)(ev:AX (az p wo K n) L hg (iC kind node) w .none c W)(hX:∀b,aF L.env b→B.X b)(hp:pre.length+hg+1≤1000)
  (mk:bB w.aa=true)(md:dF w.md=true)(hn:aJ node=true)(hz:t9 ((8::9::tr)++[d,d+1,d+2]) zs=true)
  (hT:∀σ,(∀k,k<(FF (.list pre [.loc 9,.loc (d+1)]) .none w X).length→σ k≠sysModules)→uI (gD ((8::9::tr)++[d,d+1,d+2])) (· ∈zs) σ (FF (.list pre [.loc 9,.loc (d+1)]) .none w X) (8::9::tr) T)
  (e0:(FF (.list pre [.loc 9,.loc (d+1)]) .none w X)[d]? =some (bx kind node2 (.int 0) (.loc (d+2))))(e1:(FF (.list pre [.loc 9,.loc (d+1)]) .none w X)[d+1]? =some (.inst 463 d))(e2:(FF (.list pre [.loc 9,.loc (d+1)]) .none w X)[d+2]? =some (.list [] []))
  (Kf:∀σ,(∀k,k<(FF (.list pre [.loc 9,.loc (d+1)]) .none w X).length→σ k≠sysModules)→Fw 8 (gD ((8::9::tr)++[d,d+1,d+2])) (· ∈zs) σ (FF (.list pre [.loc 9,.loc (d+1)]) .none w X) false node2 node)
  (FW:∀(k:Nat) (o:AO),T[k]? =some o→nU (8+T.length) o=true)(C8:T.length=tr.length+2)
  (hk:∀bh w',W bh w'→At (az p wo K n) L 8 B (FF (.list pre [.loc 9]) bh w' T) N):fZ (az p wo K n) L B (N+c) (FF (.list pre [.loc 9,.loc (d+1)]) .none w X):=by
 intro σ hs;have hi:∀i,(gD ((8::9::tr)++[d,d+1,d+2]))[8+T.length+i]? =([d,d+1,d+2]:List Nat)[i]? :=fun i=>by
  rw[show 8+T.length+i=8+(T.length+i)from by exact Nat.add_assoc _ _ _,xh,qx (by simp;lia)]
  congr 1
  simp;lia
 refine⟨gD ((8::9::tr)++[d,d+1,d+2]),(· ∈zs),FF (.list pre [.loc 9,.loc (8+T.length+1)]) .none w (T++Ke T.length kind node), ?_, ?_⟩
 ·refine nW (lZ:=w.md) hz (.closed rfl) (.cons (.loc rfl) (.cons (.loc (hi 1)) .nil)) mk (fj md) (mw.append (hT σ hs) (.cons e0 ?_ (.cons e1 (.inst 463 (hi 0)) (.cons e2 (.fix rfl) .nil))));exact .dict (.cons (.closed kr) (.cons (Kf σ hs) (.cons (.closed rfl) (.cons (.closed rfl) (.cons (.closed rfl) (.cons (.loc (hi 2)) (.cons (.closed rfl) .nil)))))))
 ·exact Cc rl.toIsRun ev hX hp ⟨rfl,mk,md⟩ FW (by lia) rfl (by show 2≤3;exact kU) (fun σ i o o' e e'=>FU hn i o o' e e') hk
noncomputable def sA:dK→V→Prop
 |.vals xs,v=>v=aC "value" (.lst (xs.map Val.v))
 |.raise z,v=>∃e,aJ e=true∧Qt z e∧v=aC "raise" e
structure gy (P:V→Prop) (ms:List Mark) (c:Nat) (w0:Ws) (u:V) (w:Ws):Prop where
 way:P u
 aa:w.aa=w0.aa++ms.map Mark.v
 t:w.t≤w0.t+c
 md:nY w.md∨(dF w.md=true∧∃e,u=aC "raise" e)
theorem gy.cl{P:V→Prop}{ms:List Mark}(e:gy P ms c w0 u w)(o:bB w0.aa=true):bB w.aa=true∧dF w.md=true:=by
 refine⟨by rw[e.aa];exact fO o (gx _), ?_⟩;rcases e.md with q|q
 ·exact q.closed
 ·exact q.1
theorem gy.tw{P:V→Prop}{ms:List Mark}(e:gy P ms c w0 (aC "value" v) w):nY w.md:=by
 rcases e.md with q|⟨_,e',q⟩
 ·exact q
 ·exact(Il q).elim
theorem gy.ok{P:V→Prop}{ms:List Mark}(e:gy P ms c w0 (aC "value" v) w)(o:aW (c+c') (ms.length+m) w0):aW c' m w:=by
 refine⟨?_, ?_, ?_,e.tw⟩
 ·have:=e.t;have:=o.t;lia
 ·rw[e.aa];exact fO o.aa (gx _)
 ·rw[e.aa];have:=o.len;simp;lia
theorem gy.gU{P:V→Prop}{ms:List Mark}(e:gy P ms c {w with t:=w.t+1} u w'):gy P ms (c+1) w u w':=⟨e.way,e.aa,tA e.t (qf _),e.md⟩
def C9(cx:Cx)(L:Lp)(hg n:Nat)(kind:Str)(node:V)(ms:List Mark)(P:V→Prop):Prop:=∀w,aW n ms.length w→AX cx L hg (iC kind node) w .none n (gy P ms n w)
noncomputable def vT(node:V)(i:Nat)(xs:List Val):St:=[bx "values" node (.int i) (.loc 10),.inst 463 8,.list [] (xs.map Val.v)]
theorem F0(xs:List Val):uU c (xs.map Val.v)=true:=by
 induction xs with
 |nil=>rfl
 |cons x xs ih=>exact dg (by cases x<;>rfl) ih
theorem A2(i:Nat)(o:AO)(e:(vT (.lst vs) a xs)[i]? =some o):nU (8+(vT (.lst vs) a xs).length) o=true:=
 pL (P:=fun o=>nU 11 o=true) rfl (pL rfl (pL (by exact F0 (c:=11) xs) SJ)) i o e
theorem jo(xs:List Val):bB (xs.map Val.v)=true:=gr bO xs
theorem A3{st:St}{vs:List V}{a:Nat}{xs:List Val}(h8:aD[8]? =some 8)(ou:aD[10]? =some 10)
  (e:∀i o,(vT (.lst vs) a xs)[i]? =some o→st[8+i]? =some o):uI aD z σ st [8,9,10] (vT (.lst vs) a xs):=
 .cons (e 0 _ rfl) (.dict (.cons (.closed rfl) (.cons (.closed rfl) (.cons (.closed rfl) (.cons (.closed rfl) (.cons (.closed rfl) (.cons (.loc ou) (.cons (.closed rfl) .nil))))))))
  (.cons (e 1 _ rfl) (.inst 463 h8) (.cons (e 2 _ rfl) (.list (gT (jo xs))) .nil))
end
noncomputable def q7(xs:List Val):dK→dK
 |.vals ys=>.vals (xs++ys)
 |.raise z=>.raise z
theorem Km(xs ys:List Val)(r:dK):q7 xs (q7 ys r)=q7 (xs++ys) r:=by induction r using dK.casesOn<;>simp[q7]
theorem NI(r:dK):q7 [] r=r:=by induction r using dK.casesOn<;>rfl
theorem xq(h:l.rd=(m,.val x)):bZ (l::ls)=(m++(bZ ls).1,q7 [x] (bZ ls).2):=by
 rw[bZ,h];dsimp only;induction bZ ls using qn with
 |mk m' r=>induction r using dK.casesOn<;>rfl
theorem ud(h:l.rd=(m,.raise z)):bZ (l::ls)=(m,.raise z):=by
 rw[bZ,h]
noncomputable def aH.kd:aH→Str
 |.int _=>"int"
 |.nil=>"nil"
 |.gZ _=>"ivar"
section
variable{K:Frag}
noncomputable def vW(node:V)(i:Nat)(vs:List V):St:=[bx "values" node (.int i) (.loc 10),.inst 463 8,.list [] vs]
theorem SM:vW node i (xs.map Val.v++[x.v])=vT node i (xs++[x]):=by unfold vW vT;rw[List.map_append];rfl
theorem tH{α:Type}{f:α→V}{l:List α}(h:l.length≤3):(l.map f).length+1≤500:=by rw[List.length_map];lia
theorem Dc(hm:bB w.aa=true)(hd:dF w.md=true)
  (h:At (az p wo K n) L 8 B (FF (.list pre []) (aC "value" (.lst (xs.map Val.v))) w []) N):fZ (az p wo K n) L B N (FF (.list pre []) (.loc 12) w (vT node i xs++[dZ "value" (.loc 10),.inst 441 11])):=
 fq (bh:=aC "value" (.lst (xs.map Val.v))) (zs:=[12,11,10]) rfl (fun σ _=>eO (j:=12) (d:=11) (v:=.loc 10) (by exact ms) (by exact kL) rfl rfl (.lst (by trivial) rfl (gT (jo xs)))) hm hd h
theorem vt(rl:bL L k)(hn:0<n)(l:aH)(ok:l.ok):iP (az p wo K n) L 0 1 l.kd l.node l.rd:=by
 induction l using aH.casesOn with
 |int i=>exact NB rl hn ok
 |nil=>exact Nz rl
 |gZ i=>exact Ij rl
theorem vv(l:aH)(ls:List aH):l.rd.1.length≤(bZ (l::ls)).1.length:=by
 induction h:l.rd using qn with
 |mk m w=>induction w using bu.casesOn with
  |raise z=>rw[ud h];exact qf _
  |val x=>rw[xq h];simp
theorem F1(rl:bL L k)(hX:∀b,aF L.env b→B.X b)(en:bJ l.rd 1 w bh w')(ok:aW (2*b.length+2) (bZ (l::b)).1.length w)
  (h:∀u w',gy (sA (q7 xs (bZ (l::b)).2)) (bZ (l::b)).1 (2*b.length+2) w u w'→At (az p wo K n) L 8 B (FF (.list pre []) u w' []) N)
  (H:∀y,aW (2*b.length+1) (bZ b).1.length w'→(∀u w2,gy (sA (q7 (xs++[y]) (bZ b).2)) (bZ b).1 (2*b.length+1) w' u w2→At (az p wo K n) L 8 B (FF (.list pre []) u w2 []) N)→
   At (az p wo K n) L 8 B (FF (.list pre [.loc 9]) (aC "value" y.v) w' (vT node i xs)) (N+(2*b.length+1))):At (az p wo K n) L 8 B (FF (.list pre [.loc 9]) bh w' (vT node i xs)) (N+(2*b.length+1)):=by
 have cl:=en.cl ok.aa;have jO:=en.aa;have hw:=en.way;induction hr:l.rd using qn with
 |mk m wd=>
  rw[hr]at jO hw;induction wd using bu.casesOn with
  |raise z=>
   rw[ud (ls:=b) hr]at h;obtain⟨e,ce,ze,rfl⟩:=hw;exact At.le (N:=N+1) (by lia) (dI rl hX cl.1 cl.2 (h _ _ ⟨⟨e,ce,ze,rfl⟩,jO,(en.up dU).t,.inr ⟨cl.2,_,rfl⟩⟩))
  |val y=>
   rw[xq (ls:=b) hr]at h ok;have hw:bh=aC "value" y.v:=hw;subst hw;refine H y (en.ok (c':=2*b.length+1) (m:=(bZ b).1.length) (ok.le (by lia) (by rw[hr];simp))) fun u w2 e2=>h _ _ ⟨?_, ?_, ?_,e2.md⟩
   ·have:=e2.way;rw[Km];exact this
   ·rw[e2.aa,jO];simp
   ·exact tE en.t e2.t (qA (Nat.add_comm ..))
theorem NJ{ls:List aH}(rl:bL L k)(hn:0<n)(hl:ls.length≤3)(hX:∀b,aF L.env b→B.X b)(hp:pre.length+1≤1000):
  ∀{i:Nat} {l:aH} {xs:List Val} {w:Ws},ls.drop i=l::b→l.ok→(∀l∈b,l.ok)→xs.length=i→aW (2*b.length+2) (bZ (l::b)).1.length w→
   (∀u w',gy (sA (q7 xs (bZ (l::b)).2)) (bZ (l::b)).1 (2*b.length+2) w u w'→At (az p wo K n) L 8 B (FF (.list pre []) u w' []) N)→
   fZ (az p wo K n) L B (N+(2*b.length+1)+1) (FF (.list pre [.loc 9,.loc (11+1)]) .none w (vT (.lst (ls.map aH.node)) i xs++[bx l.kd l.node (.int 0) (.loc (11+2)),.inst 463 11,.list [] []])):=by
 induction b with
 |nil=>
  intro i l xs w hd lI eN hx ok h;have la:ls.length=i+1:=by
   have:=congrArg List.length hd;simp at this;lia
  have NH:ls[i]? =some l:=by
   have:=congrArg (·[0]?) hd
   simpa using this
  refine gB (N:=N+1) (c:=1) (T:=vT (.lst (ls.map aH.node)) i xs) (node:=l.node) (node2:=l.node) (tr:=[10]) (zs:=[]) (d:=11) rl (vt rl hn l lI) hX (by assumption) (ok.le (by exact rF) (vv l [])) (dG l) rfl
   (fun σ _=>A3 rfl rfl bY) rfl rfl rfl (fun σ _=>.closed (dG l)) A2 rfl (fun bh w' en=> ?_)
  refine F1 rl hX en ok h fun y iV h=> ?_;refine fR [.v l.node,.b true] [.pick cY (ls.map aH.node) (i:Int),.fork ((xs.map Val.v).length+1≤500∧(ls.map aH.node).length+1≤500∧True) (decide ((i:Int)+1=Int.ofNat (ls.map aH.node).length)),.ok True ((.next,cG),FF (.list pre []) (.loc 12) {w' with t:=w'.t+1} (vW (.lst (ls.map aH.node)) (i+1) (xs.map Val.v++[y.v])++[dZ "value" (.loc 10),.inst 441 11]))] rl hX (by have:=iV.t;assumption) (.pk bq i rfl (by rw[List.getElem?_map,NH];rfl) (by simp;lia) (.fk ⟨tH (f:=Val.v) (l:=xs) (by lia),tH hl,trivial⟩ (decide_eq_true (by rw[List.length_map,la];rfl)) (.ok trivial ?_))) (by induction y using Val.casesOn<;>induction l using aH.casesOn<;>kernel_rfl)
  rw[SM];exact Dc (w:={w' with t:=w'.t+1}) iV.aa iV.md.closed (h _ _ ⟨(by show _=_;simp),(List.append_nil _).symm,Int.le_refl _,.inl iV.md⟩)
 |cons l2 b ih=>
  intro i l xs w hd lI eN hx ok h;have la:i+1<ls.length:=by
   have:=congrArg List.length hd;simp at this;omega
  have NH:ls[i]? =some l:=by
   have:=congrArg (·[0]?) hd
   simpa using this
  have Xi:ls[i+1]? =some l2:=by
   have:=congrArg (·[1]?) hd
   simpa using this
  have Xg:ls.drop (i+1)=l2::b:=by rw[←List.drop_drop,hd];rfl
  refine gB (N:=N+(2*(l2::b).length+1)) (c:=1) (T:=vT (.lst (ls.map aH.node)) i xs) (node:=l.node) (node2:=l.node) (tr:=[10]) (zs:=[]) (d:=11) rl (vt rl hn l lI) hX (by lia) (ok.le (by simp) (vv l _)) (dG l) rfl
   (fun σ _=>A3 rfl rfl bY) rfl rfl rfl (fun σ _=>.closed (dG l)) A2 rfl (fun bh w' en=> ?_)
  refine F1 rl hX en ok h fun y iV h=> ?_;rw[List.length_cons]at iV h⊢;refine At.le (N:=(N+(2*b.length+1)+1)+1) (by exact iS) ?_;refine fR [.v l.node,.b false,.v l2.node] [.pick cY (ls.map aH.node) (i:Int),.fork ((xs.map Val.v).length+1≤500∧(ls.map aH.node).length+1≤500∧True) (decide ((i:Int)+1=Int.ofNat (ls.map aH.node).length)),.pick True (ls.map aH.node) ((i:Int)+1),.ok cY ((.next,cG),FF (.list pre [.loc 9,.loc (11+1)]) .none {w' with t:=w'.t+1} (vW (.lst (ls.map aH.node)) (i+1) (xs.map Val.v++[y.v])++[bx l2.kd l2.node (.int 0) (.loc (11+2)),.inst 463 11,.list [] []]))] rl hX (by have:=iV.t;lia) (.pk bq i rfl (by rw[List.getElem?_map,NH];rfl) (by simp;lia) (.fk ⟨tH (f:=Val.v) (l:=xs) (by lia),tH hl,trivial⟩ (decide_eq_false (by rw[List.length_map];intro q;have q:(i:Int)+1=(ls.length:Int):=q;lia)) (.pk trivial (i+1) rfl (by rw[List.getElem?_map,Xi];rfl) (by simp;lia) (.ok bq ?_)))) (by induction y using Val.casesOn<;>induction l using aH.casesOn<;>induction l2 using aH.casesOn<;>kernel_rfl)
  rw[SM];exact ih Xg (eN l2 (qi)) (fun x hx=>eN x (qj _ hx)) (by simp;assumption) (aW.tick iV) fun u w2 cV=>h _ _ cV.gU
theorem Im(rl:bL L k)(hn:0<n)(hl:ls.length≤3)(lI:∀l∈ls,l.ok):C9 (az p wo K n) L 1 7 "values" (.lst (ls.map aH.node)) (bZ ls).1 (sA (bZ ls).2):=by
 intro w ok B pre N hX hp h;have ot:=ok.t;induction ls using qh with
 |nil=>
  refine At.le (N:=N+1) (by lia) ?_;refine fR [.b true] [.fork (([V.loc 9]:List V).length+1≤500∧([]:List V).length+1≤500∧True) true,.ok True ((.next,cG),FF (.list pre []) (.loc 12) {w with t:=w.t+1} (vT (.lst []) 0 []++[dZ "value" (.loc 10),.inst 441 11]))] rl hX (by lia) (.fk ⟨by decide,by decide,trivial⟩ rfl (.ok trivial ?_)) kr;refine Dc (w:={w with t:=w.t+1}) ok.aa ok.md.closed (h _ _ ⟨rfl, ?_, ?_,.inl ok.md⟩)
  ·show w.aa=w.aa++[];exact(List.append_nil _).symm
  ·exact Int.add_le_add_left (show(1:Int)≤(7:Nat) by decide) _
 |cons l b=>
  have abf:l.ok:=lI l (qi);have eN:∀l∈b,l.ok:=fun x hx=>lI x (qj _ hx);have lm:=vv l b;have hl':b.length+1≤3:=hl;refine At.le (N:=(N+(2*b.length+1)+1)+1) (by lia) ?_;refine fR [.b false,.v l.node] [.fork (([V.loc 9]:List V).length+1≤500∧((l::b).map aH.node).length+1≤500∧True) (decide ((0:Int)=Int.ofNat ((l::b).map aH.node).length)),.pick True ((l::b).map aH.node) 0,.ok cY ((.next,cG),FF (.list pre [.loc 9,.loc (11+1)]) .none {w with t:=w.t+1} (vT (.lst ((l::b).map aH.node)) 0 []++[bx l.kd l.node (.int 0) (.loc (11+2)),.inst 463 11,.list [] []]))] rl hX (by lia) (.fk ⟨by decide,tH hl,trivial⟩ (decide_eq_false (by rw[List.length_map];intro q;have q:(0:Int)=((b.length+1:Nat):Int):=q;lia)) (.pk trivial 0 rfl rfl (by simp;lia) (.ok bq ?_))) (by induction l using aH.casesOn<;>kernel_rfl)
  exact NJ rl hn hl hX hp (i:=0) (xs:=[]) rfl abf eN rfl (aW.tick (ok.le (by simp;lia) (qf _))) fun u w2 en=>h _ _ ⟨NI (bZ (l::b)).2▸en.way,en.aa,tA en.t (by lia),en.md⟩
end
noncomputable def Qz(m:Int)(o:Value)(f:Value)(xs:List Val):V:=.inst 82 [("number",.int m),("owner",.aL o),("fields",.aL f),("own",.none),("frozen",.bool false),("ident",.none),("items",.lst (xs.map Val.v))]
noncomputable def QA:dK→V→Prop
 |.vals xs,v=>∃m o f,v=aC "value" (Qz m (.ref o) (.ref f) xs)
 |.raise z,v=>∃e,aJ e=true∧Qt z e∧v=aC "raise" e
theorem A4{σ:Nat→Addr}{st:St}{m:Bool}{b b2 a:ai}:∀{a2:ai},mL c aD z σ st m a a2→mL c aD z σ st m b b2→mL c aD z σ st m (a++b) (a2++b2):=by
 induction a with
 |nil=>intro a2 h h2;cases h;exact h2
 |cons x a ih=>intro a2 h h2;cases h with|cons h r=>exact .cons h (ih r h2)
section
variable{K:Frag}
theorem zL(hz:t9 [] zs=true)(hm:bB w.aa=true)
  (hw:∀σ,(∀k,k<(FF (.list pre []) way w X).length→σ k≠sysModules)→∃bh lZ,Fw 8 (gD []) (· ∈zs) σ (FF (.list pre []) way w X) false way bh∧mL 8 (gD []) (· ∈zs) σ (FF (.list pre []) way w X) false w.md lZ∧At (az p wo K n) L 8 B (FF (.list pre []) bh {w with md:=lZ} []) N):fZ (az p wo K n) L B N (FF (.list pre []) way w X):=by
 intro σ hs;obtain⟨bh,lZ,h1,h2,h3⟩:=hw σ hs;exact⟨gD [],(· ∈zs),_,nW (lZ:=lZ) (T:=[]) hz h1 .nil hm h2 .nil,h3⟩
noncomputable abbrev Xj(p:Program)(wo:World)(K:Frag)(n k:Nat)(w:Ws)(pre:LV)(ls:List aH)(xs:List Val):aA cz:=ah (bT p wo K n k (FF (.list pre [.loc 9]) (aC "value" (.lst (xs.map Val.v))) w (tT "array" (gR ls) (.int 0)))) false
theorem UQ(rl:bL L k)(hX:∀b,aF L.env b→B.X b)(hx:xs.length≤3)(ok:aW 1 0 w)
  (h:∀u w',gy (QA (.vals xs)) [] 1 w u w'→At (az p wo K n) L 8 B (FF (.list pre []) u w' []) N):
  At (az p wo K n) L 8 B (FF (.list pre [.loc 9]) (aC "value" (.lst (xs.map Val.v))) w (tT "array" (gR ls) (.int 0))) (N+1):=by
 obtain⟨aa,t,ln,md,out,main⟩:=w;have ot:t+1≤20000:=ok.t;obtain⟨q,em⟩:=ok.md;refine cj rl hX (by rw[bU];exact dU) ?_;rcases em with em|em
 ·have em:md=vX q:=em;subst em;refine ck (t:=t) kr (nd (p:=cY) kr bq) kr (by assumption) ?_;refine kC (st:=FF (.list pre []) (.loc 32) ⟨aa,t+1,ln+1+1+1,vX q++[(("Array":Str),.loc 12),(("Enumerable":Str),.loc 20)],out,main⟩ ((lY (Xj p wo K n k ⟨aa,t,ln,vX q,out,main⟩ pre ls xs)).drop 8)) kr
   (nd (p:=([V.loc 9]:List V).length+1≤500∧(Str.ofString "Enumerable"++Str.ofString ".").length≤sizeLine∧(Str.ofString "Enumerable"++Str.ofString ".").length≤sizeLine∧([]:List V).length+1≤500∧(Str.ofString "Array"++Str.ofString ".").length≤sizeLine∧(Str.ofString "Array"++Str.ofString ".").length≤sizeLine∧(xs.map Val.v).length+1≤500∧True) kr
    ⟨by decide,of_decide_eq_true kr,of_decide_eq_true kr,by decide,of_decide_eq_true kr,of_decide_eq_true kr,tH hx,trivial⟩) kr kr kr ?_
  refine zL (zs:=[32,31,29,28,27]) rfl ok.aa fun σ _=>⟨aC "value" (Qz (ln+1) (.ref (σ 12)) (.ref (σ 30)) xs),vX q++[(("Array":Str),.aL (.ref (σ 12))),(("Enumerable":Str),.aL (.ref (σ 20)))], ?_, ?_, ?_⟩
  ·refine eO (j:=32) (d:=31) (v:=.loc 29) (by exact ms) (by exact kL) kr kr ?_;refine .inst (k:=29) (d:=28) (fs:=[(("number":Str),.num (ln+1)),(("owner":Str),.loc 12),(("fields":Str),.loc 30),(("own":Str),.none),(("frozen":Str),.bool false),(("ident":Str),.none),(("items":Str),.loc 27)]) (by trivial) (by trivial) kr kr ?_;exact .cons (.num _) (.cons (.aL 12) (.cons (.aL 30) (.cons (.closed rfl) (.cons (.closed rfl) (.cons (.closed rfl) (.cons (.lst (k:=27) (vs:=xs.map Val.v) (by trivial) kr (gT (jo xs))) .nil))))))
  ·exact A4 (fj rfl) (.cons (.aL 12) (.cons (.aL 20) .nil))
  ·refine h _ _ ⟨⟨_,_,_,rfl⟩, ?_, ?_,.inl ⟨fun j=>match j with|5=>σ 12|6=>σ 20|j=>q j,.inr rfl⟩⟩
   ·show aa=aa++[];exact(List.append_nil _).symm
   ·show t+1≤t+(1:Nat);simp
 ·have em:md=Ii q:=em;subst em;refine ck (t:=t) kr (nd (p:=cY) kr bq) kr (by lia) ?_;refine kC (st:=FF (.list pre []) (.loc 16) ⟨aa,t+1,ln+1,Ii q,out,main⟩ ((lY (Xj p wo K n k ⟨aa,t,ln,Ii q,out,main⟩ pre ls xs)).drop 8)) kr
   (nd (p:=([V.loc 9]:List V).length+1≤500∧(xs.map Val.v).length+1≤500∧True) kr
    ⟨by decide,tH hx,trivial⟩) kr kr kr ?_
  refine zL (zs:=[16,15,13,12,11]) rfl ok.aa fun σ _=>⟨aC "value" (Qz (ln+1) (.ref (q 5)) (.ref (σ 14)) xs),Ii q, ?_, ?_, ?_⟩
  ·refine eO (j:=16) (d:=15) (v:=.loc 13) (by exact ms) (by exact kL) kr kr ?_;refine .inst (k:=13) (d:=12) (fs:=[(("number":Str),.num (ln+1)),(("owner":Str),.aL (.ref (q 5))),(("fields":Str),.loc 14),(("own":Str),.none),(("frozen":Str),.bool false),(("ident":Str),.none),(("items":Str),.loc 11)]) (by trivial) (by trivial) kr kr ?_;exact .cons (.num _) (.cons (.closed rfl) (.cons (.aL 14) (.cons (.closed rfl) (.cons (.closed rfl) (.cons (.closed rfl) (.cons (.lst (k:=11) (vs:=xs.map Val.v) (by trivial) kr (gT (jo xs))) .nil))))))
  ·exact fj rfl
  ·refine h _ _ ⟨⟨_,_,_,rfl⟩, ?_, ?_,.inl ⟨q,.inr rfl⟩⟩
   ·show aa=aa++[];exact(List.append_nil _).symm
   ·show t+1≤t+(1:Nat);simp
end
theorem gy.mD{P:V→Prop}{ms:List Mark}(e:gy P ms c w0 (aC "value" v) w)(o:aW (c+c') (ms.length+m) w0):aW c' m w:=e.ok o
theorem A5{ls:List aH}{xs:List Val}(h:(bZ (l::ls)).2=.vals xs):∃m x ys,l.rd=(m,.val x)∧(bZ ls).2=.vals ys∧xs=x::ys:=by
 rcases hr:l.rd with⟨m,x|z⟩
 ·rw[xq hr]at h;rcases hq:(bZ ls).2 with ys|z
  ·rw[hq]at h;injection h with h;exact⟨m,x,ys,rfl,rfl,h.symm⟩
  ·rw[hq]at h;injection h
 ·rw[ud hr]at h;injection h
theorem De(ls:List aH):∀xs:List Val,(bZ ls).2=.vals xs→xs.length=ls.length:=by
 induction ls with
 |nil=>intro xs h;injection h with h;rw[←h];rfl
 |cons l ls ih=>
  intro xs h;obtain⟨m,x,ys,_,hq,e⟩:=A5 h;rw[e];exact congrArg Nat.succ (ih ys hq)
section
variable{K:Frag}
theorem QB{ls:List aH}(rl:bL L k)(hn:0<n)(hl:ls.length≤3)(lI:∀l∈ls,l.ok):C9 (az p wo K n) L 2 9 "array" (gR ls) (bZ ls).1 (QA (bZ ls).2):=by
 intro w ok B pre N hX hp h;have ot:=ok.t;refine At.le (N:=(N+1+7)+1) (by exact iS) ?_;refine fR [] [.ok (([V.loc 9]:List V).length+1≤500∧cY) ((.next,cG),FF (.list pre [.loc 9,.loc (11+1)]) .none {w with t:=w.t+1} (tT "array" (gR ls) (.int 0)++[bx "values" (.lst (ls.map aH.node)) (.int 0) (.loc (11+2)),.inst 463 11,.list [] []]))] rl hX (by lia) (.ok ⟨bq.1,bq⟩ ?_) kr;refine zK (N:=N+1) (c:=7) (w:={w with t:=w.t+1}) (T:=tT "array" (gR ls) (.int 0)) (node:=.lst (ls.map aH.node)) (node2:=.lst (ls.map aH.node)) (tr:=[10]) (zs:=[]) (d:=11) rl (Im rl hn hl lI _ (aW.tick (ok.le (by exact kU) (qf _)))) hX (by assumption) ok.aa ok.md.closed rfl rfl
  (fun σ _=>uK rfl rfl rfl rfl bY) rfl rfl rfl (fun σ _=>.closed rfl) (uJ rfl) rfl (fun bh w' en=> ?_)
 have cl:=en.cl ok.aa;have jO:w'.aa=w.aa++(bZ ls).1.map Mark.v:=en.aa;have hw:sA (bZ ls).2 bh:=en.way;have Xk:=De ls;induction hr:(bZ ls).2 using dK.casesOn with
 |raise z=>
  rw[hr]at hw h;obtain⟨e,ce,ze,rfl⟩:=hw;exact dI rl hX cl.1 cl.2 (h _ _ ⟨⟨e,ce,ze,rfl⟩,jO,tA en.t kU,.inr ⟨cl.2,_,rfl⟩⟩)
 |vals xs=>
  rw[hr]at hw h;have hw:bh=aC "value" (.lst (xs.map Val.v)):=hw;subst hw;have fS:aW 1 0 w':=en.mD (c':=1) (m:=0) (aW.tick (ok.le (by exact iS) (by simp)));have lx:=Xk xs hr;refine UQ rl hX (by lia) fS fun u w2 cV=>h _ _ ⟨cV.way, ?_, ?_,cV.md⟩
  ·rw[cV.aa,jO];exact List.append_nil _
  ·exact tE (tA en.t (qf 8)) cV.t (qf _)
end
theorem C9.le{kind:Str}{node:V}{ms:List Mark}{P P':V→Prop}(h1:hg≤Xl)(h2:n≤n')(hP:∀v,P v→P' v)(ev:C9 cx L hg n kind node ms P):C9 cx L Xl n' kind node ms P':=fun w ok B pre N hX hp h=>
 At.le (N:=N+n) (by exact qu ‹_› _) (ev w (ok.le (by assumption) (qf _)) B pre N hX (by lia) fun u w' en=>h u w' ⟨hP _ en.way,en.aa,by have:=en.t;lia,en.md⟩)
section
variable{K:Frag}
noncomputable abbrev g6(nd:V):V:=aj "splat" (.tup [nd])
theorem F2{nd:V}{xs:List Val}{o:AO}(hm:bB w.aa=true)(hd:dF w.md=true)
  (h:At (az p wo K n) L 8 B (FF (.list pre []) (aC "value" (.lst (xs.map Val.v))) w []) N):fZ (az p wo K n) L B N (FF (.list pre []) (.loc 13) w (vW (.lst [g6 nd]) 1 (xs.map Val.v)++[o,dZ "value" (.loc 10),.inst 441 12])):=
 fq (bh:=aC "value" (.lst (xs.map Val.v))) (zs:=[13,12,10]) rfl (fun σ _=>eO (j:=13) (d:=12) (v:=.loc 10) (by exact ms) (by exact kL) rfl rfl (.lst (by trivial) rfl (gT (jo xs)))) hm hd h
theorem QC(rl:bL L k)(hn:0<n)(lI:l.ok):C9 (az p wo K n) L 1 3 "values" (.lst [g6 l.node]) (aB.jc l).rd.1 (sA (aB.jc l).rd.2):=by
 intro w ok B pre N hX hp h;have ot:=ok.t;have lm:l.rd.1.length≤(aB.jc l).rd.1.length:=by
  induction hr:l.rd using qn with
  |mk m w=>induction w using bu.casesOn<;>simp[aB.rd,hr]
 refine At.le (N:=(N+1+1)+1) (by exact iS) ?_;refine fR [.b false,.v (g6 l.node)] [.fork (([V.loc 9]:List V).length+1≤500∧([g6 l.node]:List V).length+1≤500∧True) false,.pick True [g6 l.node] 0,.ok cY ((.next,cG),FF (.list pre [.loc 9,.loc (11+1)]) .none {w with t:=w.t+1} (vT (.lst [g6 l.node]) 0 []++[bx l.kd l.node (.int 0) (.loc (11+2)),.inst 463 11,.list [] []]))] rl hX (by lia) (.fk ⟨by decide,tC _,trivial⟩ rfl (.pk trivial 0 rfl rfl (by exact qo rfl) (.ok bq ?_))) (by induction l using aH.casesOn<;>kernel_rfl)
 refine gB (N:=N+1) (c:=1) (w:={w with t:=w.t+1}) (T:=vT (.lst [g6 l.node]) 0 []) (node:=l.node) (node2:=l.node) (tr:=[10]) (zs:=[]) (d:=11) rl (vt rl hn l lI) hX (by assumption) (aW.tick (ok.le (by exact kU) lm)) (dG l) rfl
  (fun σ _=>A3 rfl rfl bY) rfl rfl rfl (fun σ _=>.closed (dG l)) A2 rfl (fun bh w' en=> ?_)
 have cl:=en.cl ok.aa;have jO:w'.aa=w.aa++l.rd.1.map Mark.v:=en.aa;have hw:o9 l.rd.2 bh:=en.way;induction hr:l.rd using qn with
 |mk m wd=>
  rw[hr]at jO hw;induction wd using bu.casesOn with
  |raise z=>
   have hA:(aB.jc l).rd=(m,.raise z):=by simp[aB.rd,hr]
   rw[hA]at h;obtain⟨e,ce,ze,rfl⟩:=hw;exact(dI rl hX cl.1 cl.2 (h _ _ ⟨⟨e,ce,ze,rfl⟩,jO,tA en.t kU,.inr ⟨cl.2,_,rfl⟩⟩))
  |val y=>
   have hw:bh=aC "value" y.v:=hw;subst hw;have iV:aW 1 0 w':=en.ok (c':=1) (m:=0) (aW.tick (ok.le (by exact iS) (by assumption)));have ot':=iV.t;refine cj rl hX (by rw[bU];exact dU) ?_;refine ck (t:=w'.t) kr (nd (p:=cY) kr bq) kr (by assumption) ?_;refine ie [g6 l.node] 0 0 (g6 l.node) kr (nd (p:=cY) kr bq) rfl rfl (by exact qo rfl) ?_;have fin:∀(xs:List Val) (o:AO),(aB.jc l).rd=(m,.vals xs)→fZ (az p wo K n) L B N (FF (.list pre []) (.loc 13) {w' with t:=w'.t+1} (vW (.lst [g6 l.node]) 1 (xs.map Val.v)++[o,dZ "value" (.loc 10),.inst 441 12])):=fun xs o e=>by
    rw[e]at h;exact F2 (w:={w' with t:=w'.t+1}) iV.aa iV.md.closed (h _ _ ⟨rfl,jO,tB en.t (qf _),.inl iV.md⟩)
   induction y using Val.casesOn with
   |none=>
    refine sq (b:=true) kr (nd (p:=(([]:List V).length+1≤250∧([]:List V).length+1≤250)∧([g6 l.node]:List V).length+1≤500∧True) kr ⟨⟨by decide,qo rfl⟩,tC _,trivial⟩) kr ?_;exact bC (p:=True) (st:=FF (.list pre []) (.loc 13) {w' with t:=w'.t+1} (vW (.lst [g6 l.node]) 1 (([]:List Val).map Val.v)++[.list [] [],dZ "value" (.loc 10),.inst 441 12])) ⟨kr,kr,kr,kr,kr⟩ trivial (fin [] _ (by simp[aB.rd,hr]))
   |int i=>
    refine sq (b:=true) kr (nd (p:=(([]:List V).length+1≤250∧([V.int i]:List V).length+1≤250)∧([g6 l.node]:List V).length+1≤500∧True) kr ⟨⟨by decide,qo rfl⟩,tC _,trivial⟩) kr ?_;exact bC (p:=True) (st:=FF (.list pre []) (.loc 13) {w' with t:=w'.t+1} (vW (.lst [g6 l.node]) 1 (([.int i]:List Val).map Val.v)++[.list [] [.int i],dZ "value" (.loc 10),.inst 441 12])) ⟨kr,kr,kr,kr,kr⟩ trivial (fin [.int i] _ (by simp[aB.rd,hr]))
   |bool i=>
    refine sq (b:=true) kr (nd (p:=(([]:List V).length+1≤250∧([V.bool i]:List V).length+1≤250)∧([g6 l.node]:List V).length+1≤500∧True) kr ⟨⟨by decide,qo rfl⟩,tC _,trivial⟩) kr ?_;exact bC (p:=True) (st:=FF (.list pre []) (.loc 13) {w' with t:=w'.t+1} (vW (.lst [g6 l.node]) 1 (([.bool i]:List Val).map Val.v)++[.list [] [.bool i],dZ "value" (.loc 10),.inst 441 12])) ⟨kr,kr,kr,kr,kr⟩ trivial (fin [.bool i] _ (by simp[aB.rd,hr]))
theorem NK(rl:bL L k)(hn:0<n)(hl:ls.length≤3)(lI:∀l∈ls,l.ok):C9 (az p wo K n) L 3 11 "values" (.lst [g6 (gR ls)]) (bZ ls).1 (sA (bZ ls).2):=by
 intro w ok B pre N hX hp h;have ot:=ok.t;refine At.le (N:=(N+1+9)+1) (by exact iS) ?_;refine fR [.b false,.v (g6 (gR ls))] [.fork (([V.loc 9]:List V).length+1≤500∧([g6 (gR ls)]:List V).length+1≤500∧True) false,.pick True [g6 (gR ls)] 0,.ok cY ((.next,cG),FF (.list pre [.loc 9,.loc (11+1)]) .none {w with t:=w.t+1} (vT (.lst [g6 (gR ls)]) 0 []++[bx "array" (gR ls) (.int 0) (.loc (11+2)),.inst 463 11,.list [] []]))] rl hX (by lia) (.fk ⟨by decide,tC _,trivial⟩ rfl (.pk trivial 0 rfl rfl (by exact qo rfl) (.ok bq ?_))) kr;refine zK (N:=N+1) (c:=9) (w:={w with t:=w.t+1}) (T:=vT (.lst [g6 (gR ls)]) 0 []) (node:=gR ls) (node2:=gR ls) (tr:=[10]) (zs:=[]) (d:=11) rl (QB rl hn hl lI _ (aW.tick (ok.le (by exact kU) (qf _)))) hX (by assumption) ok.aa ok.md.closed rfl rfl
  (fun σ _=>A3 rfl rfl bY) rfl rfl rfl (fun σ _=>.closed rfl) A2 rfl (fun bh w' en=> ?_)
 have cl:=en.cl ok.aa;have jO:w'.aa=w.aa++(bZ ls).1.map Mark.v:=en.aa;have hw:QA (bZ ls).2 bh:=en.way;have Xk:=De ls;induction hr:(bZ ls).2 using dK.casesOn with
 |raise z=>
  rw[hr]at hw h;obtain⟨e,ce,ze,rfl⟩:=hw;exact dI rl hX cl.1 cl.2 (h _ _ ⟨⟨e,ce,ze,rfl⟩,jO,tA en.t kU,.inr ⟨cl.2,_,rfl⟩⟩)
 |vals xs=>
  rw[hr]at hw h;have lx:=Xk xs hr;obtain⟨i,o,f,hw⟩:=hw;subst hw;have iV:aW 1 0 w':=en.mD (c':=1) (m:=0) (aW.tick (ok.le (by exact iS) (by simp)));have ot':=iV.t;refine fR [.v (g6 (gR ls)),.b true] [.pick cY [g6 (gR ls)] 0,.fork ((xs.map Val.v).length+1≤500∧(([]:List V).length+1≤250∧(xs.map Val.v).length+1≤250)∧([g6 (gR ls)]:List V).length+1≤500∧True) true,.ok True ((.next,cG),FF (.list pre []) (.loc 13) {w' with t:=w'.t+1} (vW (.lst [g6 (gR ls)]) 1 (xs.map Val.v)++[.list [] (xs.map Val.v),dZ "value" (.loc 10),.inst 441 12]))] rl hX (by assumption) (.pk bq 0 rfl rfl (by exact qo rfl) (.fk ⟨tH (by lia),⟨by decide,by rw[List.length_map];lia⟩,tC _,trivial⟩ rfl (.ok trivial ?_))) kr;exact F2 (w:={w' with t:=w'.t+1}) iV.aa iV.md.closed (h _ _ ⟨rfl,jO,tB en.t (qf _),.inl iV.md⟩)
theorem UR{t:aB}(rl:bL L k)(hn:0<n)(ok:t.ok):C9 (az p wo K n) L 3 11 "values" (.lst [t.node]) t.rd.1 (sA t.rd.2):=by
 induction t using aB.casesOn with
 |leaf l=>exact(Im (ls:=[l]) rl hn (by exact rF) (fun x hx=>by cases hx with|head=>exact ok|tail _ h=>cases h)).le (by exact rF) (by exact dU) fun v h=>h
 |jc l=>exact(QC rl hn ok).le (by lia) (by exact dU) fun v h=>h
 |iN ls=>exact(NK rl hn ok.1 ok.2).le (by exact qf _) (by exact qf _) fun v h=>h
end
theorem n5{ay:Val}{oz iR:Int}{xs:List Val}(hs:kF 13 state=true)(i:Nat)(o:AO)(e:(cT kind (aj kd qY) state ay oz iR (xs.map Val.v))[i]? =some o):nU (8+(cT kind (aj kd qY) state ay oz iR (xs.map Val.v)).length) o=true:=by
 exact pL (P:=fun o=>nU 13 o=true) (by show eW (kF 13 state) true=true;rw[hs];rfl) (pL rfl (pL (by cases ay<;>rfl) (pL rfl (pL (by exact F0 (c:=13) xs) SJ)))) i o e
theorem n6{σ:Nat→Addr}{st:St}{kind:Str}{node state:V}{ay:Val}{oz iR:Int}{xs:List Val}(hn:aJ node=true)(hs:aJ state=true)(h8:aD[8]? =some 8)(ou:aD[10]? =some 10)(A1:aD[11]? =some 11)(vY:aD[12]? =some 12)
  (e:∀i o,(cT kind node state ay oz iR (xs.map Val.v))[i]? =some o→st[8+i]? =some o):uI aD z σ st [8,9,10,11,12] (cT kind node state ay oz iR (xs.map Val.v)):=
 .cons (e 0 _ rfl) (.dict (.cons (.closed kr) (.cons (.closed hn) (.cons (.closed rfl) (.cons (.closed rfl) (.cons (.closed hs) (.cons (.loc A1) (.cons (.closed rfl) .nil))))))))
  (.cons (e 1 _ rfl) (.inst 463 h8) (.cons (e 2 _ rfl) (.dict (.cons (.closed (bO ay)) (.cons (.closed rfl) (.cons (.closed rfl) (.cons (.loc vY) .nil)))))
   (.cons (e 3 _ rfl) (.inst 764 ou) (.cons (e 4 _ rfl) (.list (gT (jo xs))) .nil))))
noncomputable def cM(kind:Str)(node state:V)(ay:Val)(oz iR:Int):St:=[bx kind node state (.loc 12),.inst 463 8,.list [] [],Cg ay.v oz iR 13,.inst 764 11,.list [] []]
theorem sC{aD:List Nat}{z:Nat→Prop}{σ:Nat→Addr}{st:St}(hn:aJ node=true)(hs:aJ state=true)(h8:aD[8]? =some 8)(ou:aD[10]? =some 11)(A1:aD[11]? =some 12)(vY:aD[12]? =some 13)
  (e:∀i o,(cM kind node state ay oz iR)[i]? =some o→st[8+i]? =some o):uI aD z σ st [8,9,11,12,13] (cT kind node state ay oz iR []):=
 .cons (e 0 _ rfl) (.dict (.cons (.closed kr) (.cons (.closed hn) (.cons (.closed rfl) (.cons (.closed rfl) (.cons (.closed hs) (.cons (.loc A1) (.cons (.closed rfl) .nil))))))))
  (.cons (e 1 _ rfl) (.inst 463 h8) (.cons (e 3 _ rfl) (.dict (.cons (.closed (bO ay)) (.cons (.closed rfl) (.cons (.closed rfl) (.cons (.loc vY) .nil)))))
   (.cons (e 4 _ rfl) (.inst 764 ou) (.cons (e 5 _ rfl) (.fix rfl) .nil))))
noncomputable def sD(c:Nat):ai:=[("NoMatchingPatternError",.loc (c+1)),("StandardError",.loc (c+8)),("Exception",.loc (c+15)),("String",.loc (c+25)),("Comparable",.loc (c+33))]
noncomputable def abg(c:Nat)(a:Int)(o:Value):AO:=.dict [("number",.num a),("owner",.aL o),("fields",.loc (c+2)),("own",.none),("frozen",.bool false),("ident",.none),("name",.str "NoMatchingPatternError"),("is_class",.bool true),
 ("parent",.loc (c+8)),("outer",.none),("methods",.loc (c+3)),("constants",.loc (c+4)),("mixed",.loc (c+23)),("ahead",.loc (c+6)),("attached",.none),("native",.str "NoMatchingPatternError"),("kept",.none)]
noncomputable def Xm(c:Nat)(a:Int)(s:Str):AO:=.dict [("number",.num a),("owner",.loc (c+25)),("fields",.loc (c+42)),("own",.none),("frozen",.bool false),("ident",.none),("text",.str s)]
noncomputable def Xn(c:Nat)(a:Int):AO:=.dict [("number",.num a),("owner",.loc (c+1)),("fields",.loc (c+45)),("own",.none),("frozen",.bool false),("ident",.none),("message",.loc (c+41)),("cause",.none)]
section
variable{K:Frag}
theorem QD(c:Nat){out main:Value}{X:St}{a1 a2 a3:Int}{o1:Value}{s:Str}(hc:8≤c)(hm:bB aa=true)(hd:dF md=true)
  (e0:(FF (.list pre []) (.loc (c+47)) ⟨aa,t,ln,md++sD c,out,main⟩ X)[c]? =some (abg c a1 o1))
  (e1:(FF (.list pre []) (.loc (c+47)) ⟨aa,t,ln,md++sD c,out,main⟩ X)[c+1]? =some (.inst 228 c))
  (e2:(FF (.list pre []) (.loc (c+47)) ⟨aa,t,ln,md++sD c,out,main⟩ X)[c+40]? =some (Xm c a2 s))
  (e3:(FF (.list pre []) (.loc (c+47)) ⟨aa,t,ln,md++sD c,out,main⟩ X)[c+41]? =some (.inst 62 (c+40)))
  (e4:(FF (.list pre []) (.loc (c+47)) ⟨aa,t,ln,md++sD c,out,main⟩ X)[c+43]? =some (Xn c a3))
  (e5:(FF (.list pre []) (.loc (c+47)) ⟨aa,t,ln,md++sD c,out,main⟩ X)[c+44]? =some (.inst 181 (c+43)))
  (e6:(FF (.list pre []) (.loc (c+47)) ⟨aa,t,ln,md++sD c,out,main⟩ X)[c+46]? =some (dZ "raise" (.loc (c+44))))
  (e7:(FF (.list pre []) (.loc (c+47)) ⟨aa,t,ln,md++sD c,out,main⟩ X)[c+47]? =some (.inst 441 (c+46)))
  (h:∀e lZ,aJ e=true→Kc ("NoMatchingPatternError "++s) e→dF lZ=true→At (az p wo K n) L 8 B (FF (.list pre []) (aC "raise" e) ⟨aa,t,ln,lZ,out,main⟩ []) N):
  fZ (az p wo K n) L B N (FF (.list pre []) (.loc (c+47)) ⟨aa,t,ln,md++sD c,out,main⟩ X):=by
 have hz:∀i,i≤47→c+i∈(List.range 48).map (c+·):=fun i hi=>List.mem_map.mpr ⟨i,List.mem_range.mpr (by exact Nat.lt_succ_of_le ‹_›),rfl⟩;refine zL (zs:=(List.range 48).map (c+·)) ?_ hm fun σ Nx=> ?_
 ·refine Bool.and_eq_true_iff.mpr ⟨rfl,Bool.and_eq_true_iff.mpr ⟨List.all_eq_true.mpr fun k hk=> ?_,rfl⟩⟩;have h8:k<8:=List.mem_range.mp (show k∈List.range 8 from hk);rw[Bool.not_eq_true',List.contains_eq_mem,decide_eq_false_iff_not];exact fun q=>by obtain⟨i,_,e⟩:=List.mem_map.mp q;lia
 ·let gs:List (Str×V):=[(("number":Str),.int a1),(("owner":Str),.aL o1),(("fields":Str),.aL (.ref (σ (c+2)))),(("own":Str),.none),(("frozen":Str),.bool false),(("ident":Str),.none),(("name":Str),.str "NoMatchingPatternError"),(("is_class":Str),.bool true),
   (("parent":Str),.aL (.ref (σ (c+8)))),(("outer":Str),.none),(("methods":Str),.aL (.ref (σ (c+3)))),(("constants":Str),.aL (.ref (σ (c+4)))),(("mixed":Str),.aL (.ref (σ (c+23)))),(("ahead":Str),.aL (.ref (σ (c+6)))),(("attached":Str),.none),(("native":Str),.str "NoMatchingPatternError"),(("kept":Str),.none)]
  let hs:List (Str×V):=[(("number":Str),.int a2),(("owner":Str),.aL (.ref (σ (c+25)))),(("fields":Str),.aL (.ref (σ (c+42)))),(("own":Str),.none),(("frozen":Str),.bool false),(("ident":Str),.none),(("text":Str),.str s)]
  let fs:List (Str×V):=[(("number":Str),.int a3),(("owner":Str),.inst 228 gs),(("fields":Str),.aL (.ref (σ (c+45)))),(("own":Str),.none),(("frozen":Str),.bool false),(("ident":Str),.none),(("message":Str),.inst 62 hs),(("cause":Str),.none)]
  refine⟨aC "raise" (.inst 181 fs),md++[(("NoMatchingPatternError":Str),.aL (.ref (σ (c+1)))),(("StandardError":Str),.aL (.ref (σ (c+8)))),(("Exception":Str),.aL (.ref (σ (c+15)))),(("String":Str),.aL (.ref (σ (c+25)))),(("Comparable":Str),.aL (.ref (σ (c+33))))], ?_, ?_, ?_⟩
  ·refine eO (hz _ (by exact qf _)) (hz _ (by exact kU)) e7 e6 (.inst (hz _ (by exact dU)) (hz _ (by exact dU)) e5 e4 ?_);refine .cons (.num _) (.cons (.inst (hz 1 (by exact rF)) (hz 0 (by exact nz)) e1 e0 ?_) (.cons (.aL _) (.cons (.closed rfl) (.cons (.closed rfl) (.cons (.closed rfl) (.cons (.inst (hz _ (by exact dU)) (hz _ (by exact dU)) e3 e2 ?_) (.cons (.closed rfl) .nil)))))))
   ·exact .cons (.num _) (.cons (.closed rfl) (.cons (.aL _) (.cons (.closed rfl) (.cons (.closed rfl) (.cons (.closed rfl) (.cons (.closed rfl) (.cons (.closed rfl) (.cons (.aL _) (.cons (.closed rfl) (.cons (.aL _) (.cons (.aL _) (.cons (.aL _) (.cons (.aL _) (.cons (.closed rfl) (.cons (.closed rfl) (.cons (.closed rfl) .nil))))))))))))))))
   ·exact .cons (.num _) (.cons (.aL _) (.cons (.aL _) (.cons (.closed rfl) (.cons (.closed rfl) (.cons (.closed rfl) (.cons (.closed kr) .nil))))))
  ·exact A4 (fj hd) (.cons (.aL _) (.cons (.aL _) (.cons (.aL _) (.cons (.aL _) (.cons (.aL _) .nil)))))
  ·refine h _ _ rfl ⟨s,a1,a2,a3,o1,fun i=>.ref (σ (c+i)),rfl,rfl⟩ ?_;clear Nx h e0 e1 e2 e3 e4 e5 e6 e7;induction md with
   |nil=>rfl
   |cons x l ih=>
    rw[List.cons_append];show eW (kF 0 x.2) (pS 0 (l++_))=true;rw[(bk hd).1];exact ih (bk hd).2
end
noncomputable def F3(d:Nat)(a:Int)(o:Addr)(name:Str)(cls:Bool)(Xo:V)(mx:Nat):St:=[.dict [("number",.num a),("owner",.aL (.ref o)),("fields",.loc (d+2)),("own",.none),("frozen",.bool false),("ident",.none),("name",.str name),("is_class",.bool cls),
 ("parent",Xo),("outer",.none),("methods",.loc (d+3)),("constants",.loc (d+4)),("mixed",.loc mx),("ahead",.loc (d+6)),("attached",.none),("native",.str name),("kept",.none)],
 .inst 228 d,.dict [],.dict [],.dict [],.list [] [],.list [] []]
noncomputable def yo(c:Nat)(ln:Int)(q:Nat→Addr)(s:Str):St:=
 F3 c (ln+1+1) (q 2) "NoMatchingPatternError" true (.loc (c+8)) (c+23)++(F3 (c+7) (ln+1+1+1) (q 2) "StandardError" true (.loc (c+15)) (c+22)++(F3 (c+14) (ln+1+1+1+1) (q 2) "Exception" true (.aL (.ref (q 0))) (c+21)++
 ([.list [] [],.list [] [],.list [] []]++(F3 (c+24) (ln+1+1+1+1+1+1) (q 2) "String" true (.aL (.ref (q 0))) (c+31)++([.list [] [.loc (c+33)]]++(F3 (c+32) (ln+1+1+1+1+1+1+1) (q 3) "Comparable" false .none (c+39)++
 [.list [] [],Xm c (ln+1+1+1+1+1) s,.inst 62 (c+40),.dict [],Xn c (ln+1),.inst 181 (c+43),.dict [],dZ "raise" (.loc (c+44)),.inst 441 (c+46)]))))))
theorem nB(i:Nat):(FF vV way w (T++Y))[8+T.length+i]? =Y[i]? :=by
 rw[Nat.add_assoc,kB,qx (by exact kT)];congr 1;simp
section
variable{K:Frag}
theorem Ci(T:St)(hm:bB aa=true)(hd:dF md=true)
  (h:∀e lZ,aJ e=true→Kc ("NoMatchingPatternError "++s) e→dF lZ=true→At (az p wo K n) L 8 B (FF (.list pre []) (aC "raise" e) ⟨aa,t,ln+1+1+1+1+1+1+1,lZ,out,main⟩ []) N):
  fZ (az p wo K n) L B N (FF (.list pre []) (.loc (8+T.length+47)) ⟨aa,t,ln+1+1+1+1+1+1+1,md++sD (8+T.length),out,main⟩ (T++yo (8+T.length) ln q s)):=by
 refine QD (8+T.length) (a1:=ln+1+1) (a2:=ln+1+1+1+1+1) (a3:=ln+1) (o1:=.ref (q 2)) (s:=s) (by exact kT) hm hd ?_ ?_ ?_ ?_ ?_ ?_ ?_ ?_ h
 ·exact nB 0
 ·exact nB 1
 ·exact nB 40
 ·exact nB 41
 ·exact nB 43
 ·exact nB 44
 ·exact nB 46
 ·exact nB 47
def DM:Prop:=(10:Nat)≤16777216∧(10:Nat)≤16777216∧(14:Nat)≤16777216∧(14:Nat)≤16777216∧(23:Nat)≤16777216∧(23:Nat)≤16777216∧(11:Nat)≤16777216∧(11:Nat)≤16777216∧(1:Nat)≤500∧(7:Nat)≤16777216∧(7:Nat)≤16777216∧True
theorem F4:DM:=by unfold DM;decide
noncomputable def n7(f:Bool)(q:Nat→Addr):ai:=match f with|false=>vX q|true=>Ii q
theorem nY.get(h:nY md):∃f q,md=n7 f q:=by
 obtain⟨q,h|h⟩:=h
 ·exact⟨false,q,h⟩
 ·exact⟨true,q,h⟩
theorem vz(f:Bool)(q:Nat→Addr):dF (n7 f q)=true:=by induction f using qd<;>rfl
structure NL (k:Nat) (r:aA cz) (x:Val) (p1:Prop) (mQ Df:St):Prop where
 a:BW r=some (345,[x.v])
 n:eZ r=p1
 d:BX r=k+38
 s:mq r=mQ
 o:iM (jS r (.str (eE x)) mQ)=true
 m:eZ (jS r (.str (eE x)) mQ)=DM
 e1:yW (jS r (.str (eE x)) mQ)=.next
 e2:tw (jS r (.str (eE x)) mQ)=cG
 e3:lY (jS r (.str (eE x)) mQ)=Df
theorem US(F:NL k r x p1 mQ Df)(hn:0<n)(ok:x.ok)(hp:p1)(q:fZ (az p wo K n) L B N Df):Gd (dR n) aI r (jx (az p wo K n) L B N):=
 FT x hn ok F.a (nd F.n hp) (k+38) F.d (by exact dU) mQ F.s (bC ⟨F.o,F.m,F.e1,F.e2,F.e3⟩ F4 q)
theorem UT(x:Val)(f:Bool)(q:Nat→Addr):
  NL k (ah (bT p wo K n k (FF (.list pre [.loc 9]) (aC "value" (.bool false)) ⟨aa,t,ln,n7 f q,out,main⟩ (cT "matchq" (aj "matchq" node) (.str "matched") x 0 0 []))) false) x ((2:Nat)≤500∧True)
   (FF (.list pre [.loc 9]) .none ⟨aa,t+1,ln,n7 f q,out,main⟩ (cT "matchq" (aj "matchq" node) (.str "matched") x 0 0 []))
   (FF (.list pre []) (.loc 60) ⟨aa,t+1,ln+1+1+1+1+1+1+1,n7 f q++sD 13,out,main⟩ (cT "matchq" (aj "matchq" node) (.str "matched") x 0 0 []++yo 13 ln q (eE x))):=by
 induction f using qd<;>induction x using Val.casesOn<;>exact⟨kr,kr,kr,kr,kr,kr,kr,kr,kr⟩
theorem Kn(rl:bL L k)(hn:0<n)(hX:∀b,aF L.env b→B.X b)(fD:x.ok)(ok:aW 1 0 w)
  (h:∀u w',bJ ([],if b=true then .val .none else .raise (jF x)) 1 w u w'→At (az p wo K n) L 8 B (FF (.list pre []) u w' []) N):
  At (az p wo K n) L 8 B (FF (.list pre [.loc 9]) (aC "value" (.bool b)) w (cT "matchq" (aj "matchq" node) (.str "matched") x 0 0 [])) (N+1):=by
 obtain⟨aa,t,ln,md,out,main⟩:=w;have ot:t+1≤20000:=ok.t;refine cj rl hX (by rw[bU];exact dU) ?_;induction b using qd with
 |true=>
  refine ck (t:=t) kr (nd (p:=cY) kr bq) kr (by assumption) ?_;refine bC (p:=cY) (st:=FF (.list pre []) (.loc 14) ⟨aa,t+1,ln,md,out,main⟩ (cT "matchq" (aj "matchq" node) (.str "matched") x 0 0 []++[dZ "value" .none,.inst 441 13])) ⟨kr,kr,kr,kr,kr⟩ bq ?_;refine fq (bh:=aC "value" .none) (zs:=[14,13]) rfl (fun σ _=>eO (j:=14) (d:=13) (v:=.none) (by exact ms) (by exact kL) rfl rfl (.closed rfl)) ok.aa ok.md.closed (h _ _ ⟨rfl, ?_, ?_,.inl ok.md⟩)
  ·show aa=aa++[];exact(List.append_nil _).symm
  ·show t+1≤t+(1:Nat);simp
 |false=>
  obtain⟨f,q,em⟩:=nY.get ok.md;have em:md=n7 f q:=em;subst em;refine ck (t:=t) kr (nd (p:=cY) kr bq) kr (by lia) ?_;exact US (UT x f q) hn fD ⟨by decide,trivial⟩ (Ci (cT "matchq" (aj "matchq" node) (.str "matched") x 0 0 []) ok.aa (vz f q) fun e lZ ce er cd=>h _ _ ⟨⟨e,ce,er,rfl⟩,by show aa=aa++[];exact(List.append_nil _).symm,by show t+1≤t+(1:Nat);simp,.inr ⟨cd,_,rfl⟩⟩)
end
section
variable{K:Frag}
theorem Ko(rl:bL L k)(hn:0<n)(h2:2≤hg)(iV:CX r.2)(hb:iP (az p wo K n) L hg c kb (aj kb pb) r)(hq:∀x:Val,x.ok→xj (az p wo K n) L 2 19 kq (aj kq pq) x (d7 (q.fits x))):
  iP (az p wo K n) L (hg+1) (c+22) "matchq" (aj "matchq" (.tup [aj kb pb,aj kq pq])) (dh r (eg q)):=by
 intro w ok B pre N hX hp h;obtain⟨m1,w1⟩:=r;have ot:=ok.t;have l1:m1.length≤(dh (m1,w1) (eg q)).1.length:=by
  induction w1 using bu.casesOn with
  |raise z=>exact qf _
  |val x=>simp[dh,Mine.Internal.after]
 refine At.le (N:=(N+21+c)+1) (by lia) ?_;refine fR [] [.ok (([V.loc 9]:List V).length+1≤500∧cY) ((.next,cG),FF (.list pre [.loc 9,.loc (11+1)]) .none {w with t:=w.t+1} (tT "matchq" (aj "matchq" (.tup [aj kb pb,aj kq pq])) (.str "value")++[bx kb (aj kb pb) (.int 0) (.loc (11+2)),.inst 463 11,.list [] []]))] rl hX (by lia) (.ok ⟨bq.1,bq⟩ ?_) kr;refine gB (N:=N+21) (c:=c) (w:={w with t:=w.t+1}) (T:=tT "matchq" (aj "matchq" (.tup [aj kb pb,aj kq pq])) (.str "value")) (node2:=aj kb pb) (tr:=[10]) (zs:=[]) (d:=11) rl hb hX (by assumption) (aW.tick (ok.le (by lia) l1)) rfl rfl
  (fun σ _=>uK rfl rfl rfl rfl bY) rfl rfl rfl (fun σ _=>.closed rfl) (uJ rfl) rfl (fun bh w' en=> ?_)
 induction w1 using bu.casesOn with
 |raise z=>
  have cl:=en.cl ok.aa;obtain⟨e,ce,ze,rfl⟩:=en.way;exact At.le (N:=N+1) (by lia) (dI rl hX cl.1 cl.2 (h _ _ (en.gU.up (qp _ 21))))
 |val x=>
  have fD:x.ok:=iV;have hw:bh=aC "value" x.v:=en.way;subst hw;have Xh:dh (m1,.val x) (eg q)=after m1 (eg q x):=rfl;rw[Xh]at ok h;have l2:(d7 (q.fits x)).1.length=(eg q x).1.length:=by
   unfold eg d7;induction q.fits x using qn with
   |mk m f=>induction f using ff.casesOn with
    |raise z=>rfl
    |val b=>induction b using qd<;>rfl
  have fS:aW 21 (d7 (q.fits x)).1.length w':=en.ok (c':=21) (aW.tick (ok.le (by exact iS) (by rw[l2];simp[Mine.Internal.after])));refine At.le (N:=(N+1+19)+1) (by exact iS) ?_;refine fR [] [.ok (([V.loc 9]:List V).length+1≤500∧cY) ((.next,cG),FF (.list pre [.loc 9,.loc (14+1)]) .none {w' with t:=w'.t+1} (cM "matchq" (aj "matchq" (.tup [aj kb pb,aj kq pq])) (.str "matched") x 0 0++[bx kq (aj kq pq) (.int 0) (.loc (14+4)),.inst 463 14,.list [] [],su x.v 0 (14+5) (14+6),.inst 708 (14+3),.list [] [],.dict []]))] rl hX (by have:=fS.t;omega) (.ok ⟨bq.1,bq⟩ ?_) (by induction x using Val.casesOn<;>kernel_rfl)
  refine sy (N:=N+1) (c:=19) (w:={w' with t:=w'.t+1}) (T:=cT "matchq" (aj "matchq" (.tup [aj kb pb,aj kq pq])) (.str "matched") x 0 0 []) (tr:=[11,12,13]) (zs:=[]) (d:=14) rl (hq x fD) hX (by lia) (aW.tick (fS.le (by exact kU) (qf _))) rfl rfl
   (fun σ _=>sC rfl rfl rfl rfl rfl rfl bY) rfl rfl rfl rfl rfl rfl (n5 (xs:=[]) rfl) rfl (fun nZ w2 cV=> ?_)
  have e3:=en.gU.chain cV.gU (qA (Nat.add_assoc c 1 20));have em:w2.aa=w.aa++(m1++(d7 (q.fits x)).1).map Mark.v:=e3.aa;have xm:=cV.cl fS.aa;have pN:o9 (d7 (q.fits x)).2 nZ:=cV.way;have HD:∀b,nZ=aC "value" (.bool b)→aW 1 0 w2:=fun b e=>by
   subst e;exact cV.ok (c':=1) (m:=0) (aW.tick (fS.le (by exact iS) (by simp)))
  induction hf:q.fits x using qn with
  |mk m2 f=>
   rw[hf]at pN em;induction f using ff.casesOn with
   |raise z=>
    have hA:eg q x=(m2,.raise z):=by unfold eg;rw[hf]
    rw[hA]at h;obtain⟨e,ce,ze,rfl⟩:=pN;exact dI rl hX xm.1 xm.2 (h _ _ ⟨⟨e,ce,ze,rfl⟩,em,tF e3.t kU,cV.md⟩)
   |val b=>
    have hA:eg q x=(m2,if b=true then .val .none else .raise (jF x)):=by unfold eg;rw[hf];induction b using qd<;>rfl
    rw[hA]at h;have pN:nZ=aC "value" (.bool b):=pN;have mD:=HD b pN;subst pN;refine Kn rl hn hX fD mD fun u w3 vZ=>h _ _ ⟨vZ.way, ?_, ?_,vZ.md⟩
    ·rw[vZ.aa,em];exact List.append_nil _
    ·exact tE e3.t vZ.t (qf _)
end
noncomputable abbrev bz(sv:V)(aP:List V)(ov:V):V:=aj "case" (.tup [sv,.lst aP,ov])
noncomputable def cA(kind:Str)(node state:V)(ay:Val)(oz iR:Int)(vals:List V):St:=[bx kind node state (.loc 11),.inst 463 8,Cg ay.v oz iR 13,.inst 764 10,.list [] [],.list [] vals]
theorem jf{σ:Nat→Addr}{st:St}{kind:Str}{node state:V}{ay:Val}{oz iR:Int}{xs:List Val}(hn:aJ node=true)(hs:aJ state=true)(h8:aD[8]? =some 8)(ou:aD[10]? =some 10)(A1:aD[11]? =some 11)(vY:aD[12]? =some 13)
  (e:∀i o,(cA kind node state ay oz iR (xs.map Val.v))[i]? =some o→st[8+i]? =some o):uI aD z σ st [8,9,10,11,13] (cT kind node state ay oz iR (xs.map Val.v)):=
 .cons (e 0 _ rfl) (.dict (.cons (.closed kr) (.cons (.closed hn) (.cons (.closed rfl) (.cons (.closed rfl) (.cons (.closed hs) (.cons (.loc A1) (.cons (.closed rfl) .nil))))))))
  (.cons (e 1 _ rfl) (.inst 463 h8) (.cons (e 2 _ rfl) (.dict (.cons (.closed (bO ay)) (.cons (.closed rfl) (.cons (.closed rfl) (.cons (.loc vY) .nil)))))
   (.cons (e 3 _ rfl) (.inst 764 ou) (.cons (e 5 _ rfl) (.list (gT (jo xs))) .nil))))
def iA(r:aA cz)(p:Prop)(st:St):Prop:=iM r=true∧eZ r=p∧yW r=.next∧tw r=cG∧lY r=st
def kQ(r:aA cz)(p:Prop)(b:Bool):Prop:=wO r=true∧eZ r=p∧xY r=b
def pO(r:aA cz)(p:Prop)(vs:List V)(i:Int):Prop:=JP r=some (vs,i)∧eZ r=p
noncomputable abbrev c9(ts:List V)(b:V):V:=.tup [.lst ts,b]
structure Ask (r:aA cz) (a j:Nat) (aP:List V) (sT:Int→Int→V→St):Prop where
 k1:pO (ah r true) True aP (a:Int)
 k2:∀ts b,kQ (bE (ah r true) (c9 ts b)) (ts.length+1≤500∧True) (decide ((j:Int)=Int.ofNat ts.length))
 k3:∀ts b,kQ (ah (bE (ah r true) (c9 ts b)) false) (aP.length+1≤500∧True) (decide ((a:Int)=Int.ofNat aP.length))
 k4:∀ts b,pO (ah (ah (bE (ah r true) (c9 ts b)) false) false) True aP (a:Int)
 k5:∀ts b cg b',pO (bE (ah (ah (bE (ah r true) (c9 ts b)) false) false) (c9 cg b')) True cg (j:Int)
 k6:∀ts b cg b' t,iA (bE (bE (ah (ah (bE (ah r true) (c9 ts b)) false) false) (c9 cg b')) t) ((2:Nat)≤500∧True) (sT a ((j:Int)+1) t)
 l3:∀ts b,kQ (ah (bE (ah r true) (c9 ts b)) true) (aP.length+1≤500∧True) (decide ((a:Int)+1<Int.ofNat aP.length))
 l4:∀ts b,pO (ah (ah (bE (ah r true) (c9 ts b)) true) true) True aP ((a:Int)+1)
 l5:∀ts b cg b',kQ (bE (ah (ah (bE (ah r true) (c9 ts b)) true) true) (c9 cg b')) (cg.length+1≤500∧True) (decide ((0:Int)=Int.ofNat cg.length))
 l6:∀ts b cg b',kQ (ah (bE (ah (ah (bE (ah r true) (c9 ts b)) true) true) (c9 cg b')) false) (aP.length+1≤500∧True) (decide ((a:Int)+1=Int.ofNat aP.length))
 l7:∀ts b cg b',pO (ah (ah (bE (ah (ah (bE (ah r true) (c9 ts b)) true) true) (c9 cg b')) false) false) True aP ((a:Int)+1)
 l8:∀ts b cg b' t2 b2,pO (bE (ah (ah (bE (ah (ah (bE (ah r true) (c9 ts b)) true) true) (c9 cg b')) false) false) (c9 t2 b2)) True t2 0
 l9:∀ts b cg b' t2 b2 t,iA (bE (bE (ah (ah (bE (ah (ah (bE (ah r true) (c9 ts b)) true) true) (c9 cg b')) false) false) (c9 t2 b2)) t) ((2:Nat)≤500∧True) (sT ((a:Int)+1) 1 t)
 m6:∀ts b,kQ (ah (ah (bE (ah r true) (c9 ts b)) true) false) (aP.length+1≤500∧True) (decide ((a:Int)+1=Int.ofNat aP.length))
section
variable{K:Frag}
theorem jV{p:Prop}{r:aA cz}(h:kQ r p b)(hp:p)(hb:b=c)(hk:Gd (dR n) aI (ah r c) Q):Gd (dR n) aI r Q:=sq h.1 (nd h.2.1 hp) (h.2.2.trans hb) hk
theorem vA(j:Nat)(v:V)(h:pO r True vs i)(hi:i=Int.ofNat j)(hv:vs[j]? =some v)(hl:vs.length<500)(hk:Gd (dR n) aI (bE r v) Q):Gd (dR n) aI r Q:=ie vs i j v h.1 (gY h.2) hi hv hl hk
theorem dJ:(2:Nat)≤500∧True:=by decide
theorem Xp{d a j:Nat}{ws:List (List aB×Tree d)}{aS:List aB}{body:Tree d}{rest:List (List aB×Tree d)}{r:aA cz}(A:Ask r a j (ws.map (bI (Tree.node d))) sT)
  (F:kQ r p1 (decide ((a:Int)<Int.ofNat (ws.map (bI (Tree.node d))).length)))(hp:p1)(hl:ws.length≤3)(bX:∀w∈ws,1≤w.1.length∧w.1.length≤2)(ha:ws.drop a=(aS,body)::rest)(hj:j≤aS.length)
  (h1:∀t ts,aS.drop j=t::ts→fZ (az p wo K n) L B N (sT a ((j+1:Nat):Int) t.node))
  (h2:aS.drop j=[]→∀yY b1 A6 t ts,rest=(yY,b1)::A6→yY=t::ts→fZ (az p wo K n) L B N (sT ((a+1:Nat):Int) ((1:Nat):Int) t.node))
  (h3:aS.drop j=[]→rest=[]→∀ts b,Gd (dR n) aI (ah (ah (ah (bE (ah r true) (c9 ts b)) true) false) true) (jx (az p wo K n) L B N)):Gd (dR n) aI r (jx (az p wo K n) L B N):=by
 have la:a<ws.length:=by
  have:=congrArg List.length ha;simp at this;omega
 have ea:ws[a]? =some (aS,body):=by
  have:=congrArg (·[0]?) ha
  simpa using this
 have lt:1≤aS.length∧aS.length≤2:=bX _ (qD ea);have lw:(ws.map (bI (Tree.node d))).length=ws.length:=List.length_map ..;have nw:(ws.map (bI (Tree.node d))).length+1≤500∧True:=⟨by rw[lw];lia,trivial⟩;have ew:(ws.map (bI (Tree.node d)))[a]? =some (c9 (aS.map aB.node) (kI (Tree.node d body))):=by rw[List.getElem?_map,ea];rfl
 have nt:(aS.map aB.node).length+1≤500∧True:=⟨by rw[List.length_map];lia,trivial⟩;refine jV (c:=true) F hp (decide_eq_true (by rw[lw];show(a:Int)<(ws.length:Int);lia)) ?_;refine vA a _ A.k1 rfl ew (by lia) ?_;induction hd:aS.drop j using qh with
 |cons t ts=>
  have lj:j<aS.length:=by
   have:=congrArg List.length hd;simp at this;lia
  have ej:aS[j]? =some t:=by
   have:=congrArg (·[0]?) hd
   simpa using this
  refine jV (c:=false) (A.k2 _ _) nt (decide_eq_false (by rw[List.length_map];show¬(j:Int)=(aS.length:Int);lia)) ?_;refine jV (c:=false) (A.k3 _ _) nw (decide_eq_false (by rw[lw];show¬(a:Int)=(ws.length:Int);lia)) ?_;refine vA a _ (A.k4 _ _) rfl ew (by lia) ?_;refine vA j t.node (A.k5 _ _ _ _) rfl (by rw[List.getElem?_map,ej];rfl) (by rw[List.length_map];lia) ?_;exact bC (A.k6 _ _ _ _ _) dJ (h1 t ts hd)
 |nil=>
  have lj:aS.length=j:=by
   have:=congrArg List.length hd;simp at this;lia
  refine jV (c:=true) (A.k2 _ _) nt (decide_eq_true (by rw[List.length_map,lj];rfl)) ?_;induction rest using qh with
  |cons w1 A6=>
   obtain⟨yY,b1⟩:=w1;have uL:ws.drop (a+1)=(yY,b1)::A6:=by rw[←List.drop_drop,ha];rfl
   have la1:a+1<ws.length:=by
    have:=congrArg List.length uL;simp at this;omega
   have ea1:ws[a+1]? =some (yY,b1):=by
    have:=congrArg (·[0]?) uL
    simpa using this
   have Sn:1≤yY.length∧yY.length≤2:=bX _ (qD ea1);have ew1:(ws.map (bI (Tree.node d)))[a+1]? =some (c9 (yY.map aB.node) (kI (Tree.node d b1))):=by rw[List.getElem?_map,ea1];rfl
   induction yY using qh with
   |nil=>have:=Sn.1;simp at this
   |cons t ts=>
    have nt1:((t::ts).map aB.node).length+1≤500∧True:=⟨by rw[List.length_map];have:=Sn.2;lia,trivial⟩;refine jV (c:=true) (A.l3 _ _) nw (decide_eq_true (by rw[lw];show(a:Int)+1<(ws.length:Int);lia)) ?_;refine vA (a+1) _ (A.l4 _ _) rfl ew1 (by lia) ?_;refine jV (c:=false) (A.l5 _ _ _ _) nt1 (decide_eq_false (by rw[List.length_map];show¬(0:Int)=((ts.length+1:Nat):Int);lia)) ?_;refine jV (c:=false) (A.l6 _ _ _ _) nw (decide_eq_false (by rw[lw];show¬(a:Int)+1=(ws.length:Int);lia)) ?_;refine vA (a+1) _ (A.l7 _ _ _ _) rfl ew1 (by lia) ?_;refine vA 0 t.node (A.l8 _ _ _ _ _ _) rfl rfl (by have:=nt1.1;assumption) ?_;exact bC (A.l9 _ _ _ _ _ _ _) dJ (h2 hd _ _ _ t ts rfl rfl)
  |nil=>
   have la1:ws.length=a+1:=by
    have:=congrArg List.length ha;simp at this;lia
   refine jV (c:=false) (A.l3 _ _) nw (decide_eq_false (by rw[lw];show¬(a:Int)+1<(ws.length:Int);lia)) ?_;refine jV (c:=true) (A.m6 _ _) nw (decide_eq_true (by rw[lw,la1];rfl)) ?_;exact h3 hd rfl _ _
end
local macro_rules
 | `(tactic|ac_rfl)=> `(tactic|exact⟨⟨kr,kr⟩,fun _ _=>⟨kr,kr,kr⟩,fun _ _=>⟨kr,kr,kr⟩,fun _ _=>⟨kr,kr⟩,fun _ _ _ _=>⟨kr,kr⟩,fun _ _ _ _ _=>⟨kr,kr,kr,kr,kr⟩,fun _ _=>⟨kr,kr,kr⟩,fun _ _=>⟨kr,kr⟩,fun _ _ _ _=>⟨kr,kr,kr⟩,fun _ _ _ _=>⟨kr,kr,kr⟩,fun _ _ _ _=>⟨kr,kr⟩,fun _ _ _ _ _ _=>⟨kr,kr⟩,fun _ _ _ _ _ _ _=>⟨kr,kr,kr,kr,kr⟩,fun _ _=>⟨kr,kr,kr⟩⟩)
section
variable{p:Program}{wo:World}{K:Frag}{n k:Nat}
noncomputable def lJ(f:Bool):V:=match f with|true=>.bool false|false=>.none
theorem Kp(x:Val):Ask (ah (bT p wo K n k (FF (.list pre [.loc 9]) (aC "value" x.v) ⟨aa,t,ln,md,out,main⟩ (tT "case" (bz (aj ks ps) aP ov) (.str "subject")))) false) 0 0 aP (fun a j tv=>FF (.list pre [.loc 9,.loc (15+1)]) .none ⟨aa,t+1,ln,md,out,main⟩ (cM "case" (bz (aj ks ps) aP ov) (.str "test") x a j++[.list [] [tv],bx "values" (.loc 14) (.int 0) (.loc (15+2)),.inst 463 15,.list [] []])):=by
 induction x using Val.casesOn<;>ac_rfl
theorem Dg(x:Val):kQ (ah (bT p wo K n k (FF (.list pre [.loc 9]) (aC "value" x.v) ⟨aa,t,ln,md,out,main⟩ (tT "case" (bz (aj ks ps) aP ov) (.str "subject")))) false) ((2:Nat)≤500∧aP.length+1≤500∧True) (decide ((0:Int)<Int.ofNat aP.length)):=by
 induction x using Val.casesOn<;>exact⟨kr,kr,kr⟩
theorem A7{aP:List V}(h:aP.length+1≤500):(2:Nat)≤500∧aP.length+1≤500∧True:=by trivial
theorem NN(x:Val):kQ (ah (ah (bT p wo K n k (FF (.list pre [.loc 9]) (aC "value" x.v) ⟨aa,t,ln,md,out,main⟩ (tT "case" (bz (aj ks ps) aP ov) (.str "subject")))) false) false) (aP.length+1≤500∧True) (decide ((0:Int)=Int.ofNat aP.length)):=by
 induction x using Val.casesOn<;>exact⟨kr,kr,kr⟩
theorem NP(x:Val):iA (ah (ah (ah (bT p wo K n k (FF (.list pre [.loc 9]) (aC "value" x.v) ⟨aa,t,ln,md,out,main⟩ (tT "case" (bz (aj ks ps) aP .none) (.str "subject")))) false) false) true) True (FF (.list pre []) (.loc 15) ⟨aa,t+1,ln,md,out,main⟩ (cM "case" (bz (aj ks ps) aP .none) (.str "subject") x 0 0++[dZ "value" .none,.inst 441 14])):=by
 induction x using Val.casesOn<;>exact⟨kr,kr,kr,kr,kr⟩
theorem NQ(x:Val):iA (ah (ah (ah (bT p wo K n k (FF (.list pre [.loc 9]) (aC "value" x.v) ⟨aa,t,ln,md,out,main⟩ (tT "case" (bz (aj ks ps) aP (aj ko po)) (.str "subject")))) false) false) true) ((2:Nat)≤500∧True) (FF (.list pre [.loc 9,.loc (14+1)]) .none ⟨aa,t+1,ln,md,out,main⟩ (cM "case" (bz (aj ks ps) aP (aj ko po)) (.str "end") x 0 0++[bx ko (aj ko po) (.int 0) (.loc (14+2)),.inst 463 14,.list [] []])):=by
 induction x using Val.casesOn<;>exact(⟨kr,kr,kr,kr,kr⟩)
theorem Kq:Ask (ah (bT p wo K n k (FF (.list pre [.loc 9]) .none ⟨aa,t,ln,md,out,main⟩ (tT "case" (bz .none aP ov) (.int 0)))) false) 0 0 aP (fun a j tv=>FF (.list pre [.loc 9,.loc (15+1)]) .none ⟨aa,t+1,ln,md,out,main⟩ (cM "case" (bz .none aP ov) (.str "test") .none a j++[.list [] [tv],bx "values" (.loc 14) (.int 0) (.loc (15+2)),.inst 463 15,.list [] []])):=by
 ac_rfl
theorem Dh:kQ (ah (bT p wo K n k (FF (.list pre [.loc 9]) .none ⟨aa,t,ln,md,out,main⟩ (tT "case" (bz .none aP ov) (.int 0)))) false) ((2:Nat)≤500∧aP.length+1≤500∧True) (decide ((0:Int)<Int.ofNat aP.length)):=by
 exact⟨kr,kr,kr⟩
theorem A8{aP:List V}(h:aP.length+1≤500):(2:Nat)≤500∧aP.length+1≤500∧True:=by trivial
theorem NR:kQ (ah (ah (bT p wo K n k (FF (.list pre [.loc 9]) .none ⟨aa,t,ln,md,out,main⟩ (tT "case" (bz .none aP ov) (.int 0)))) false) false) (aP.length+1≤500∧True) (decide ((0:Int)=Int.ofNat aP.length)):=by
 exact⟨kr,kr,kr⟩
theorem NS:iA (ah (ah (ah (bT p wo K n k (FF (.list pre [.loc 9]) .none ⟨aa,t,ln,md,out,main⟩ (tT "case" (bz .none aP .none) (.int 0)))) false) false) true) True (FF (.list pre []) (.loc 15) ⟨aa,t+1,ln,md,out,main⟩ (cM "case" (bz .none aP .none) (.int 0) .none 0 0++[dZ "value" .none,.inst 441 14])):=by
 exact⟨kr,kr,kr,kr,kr⟩
theorem NT:iA (ah (ah (ah (bT p wo K n k (FF (.list pre [.loc 9]) .none ⟨aa,t,ln,md,out,main⟩ (tT "case" (bz .none aP (aj ko po)) (.int 0)))) false) false) true) ((2:Nat)≤500∧True) (FF (.list pre [.loc 9,.loc (14+1)]) .none ⟨aa,t+1,ln,md,out,main⟩ (cM "case" (bz .none aP (aj ko po)) (.str "end") .none 0 0++[bx ko (aj ko po) (.int 0) (.loc (14+2)),.inst 463 14,.list [] []])):=by
 exact(⟨kr,kr,kr,kr,kr⟩)
theorem NU(x:Val)(a j:Nat):Ask (ah (bT p wo K n k (FF (.list pre [.loc 9]) (aC "value" (.lst [])) ⟨aa,t,ln,md,out,main⟩ (cT "case" (bz (aj ks ps) aP ov) (.str "test") x a j []))) false) a j aP (fun a j tv=>FF (.list pre [.loc 9,.loc (15+1)]) .none ⟨aa,t+1,ln,md,out,main⟩ (cA "case" (bz (aj ks ps) aP ov) (.str "test") x a j []++[.list [] [tv],bx "values" (.loc 14) (.int 0) (.loc (15+2)),.inst 463 15,.list [] []])):=by
 ac_rfl
theorem QE(x:Val)(a j:Nat):kQ (ah (bT p wo K n k (FF (.list pre [.loc 9]) (aC "value" (.lst [])) ⟨aa,t,ln,md,out,main⟩ (cT "case" (bz (aj ks ps) aP ov) (.str "test") x a j []))) false) ((2:Nat)≤500∧(1:Nat)≤500∧(1:Nat)≤500∧aP.length+1≤500∧True) (decide ((a:Int)<Int.ofNat aP.length)):=by
 exact⟨kr,kr,kr⟩
theorem NV{aP:List V}(h:aP.length+1≤500):(2:Nat)≤500∧(1:Nat)≤500∧(1:Nat)≤500∧aP.length+1≤500∧True:=by trivial
theorem QF(x:Val)(a j:Nat):∀ts b,iA (ah (ah (ah (bE (ah (ah (bT p wo K n k (FF (.list pre [.loc 9]) (aC "value" (.lst [])) ⟨aa,t,ln,md,out,main⟩ (cT "case" (bz (aj ks ps) aP .none) (.str "test") x a j []))) false) true) (c9 ts b)) true) false) true) True (FF (.list pre []) (.loc 15) ⟨aa,t+1,ln,md,out,main⟩ (cA "case" (bz (aj ks ps) aP .none) (.str "test") x ((a:Int)+1) 0 []++[dZ "value" .none,.inst 441 14])):=by
 exact(fun _ _=>⟨kr,kr,kr,kr,kr⟩)
theorem QG(x:Val)(a j:Nat):∀ts b,iA (ah (ah (ah (bE (ah (ah (bT p wo K n k (FF (.list pre [.loc 9]) (aC "value" (.lst [])) ⟨aa,t,ln,md,out,main⟩ (cT "case" (bz (aj ks ps) aP (aj ko po)) (.str "test") x a j []))) false) true) (c9 ts b)) true) false) true) ((2:Nat)≤500∧True) (FF (.list pre [.loc 9,.loc (14+1)]) .none ⟨aa,t+1,ln,md,out,main⟩ (cA "case" (bz (aj ks ps) aP (aj ko po)) (.str "end") x ((a:Int)+1) 0 []++[bx ko (aj ko po) (.int 0) (.loc (14+2)),.inst 463 14,.list [] []])):=by
 exact(fun _ _=>⟨kr,kr,kr,kr,kr⟩)
theorem Kr(x:Val)(f:Bool)(a j:Nat):Ask (ah (bT p wo K n k (FF (.list pre [.loc 9]) (aC "value" (lJ f)) ⟨aa,t,ln,md,out,main⟩ (cT "case" (bz (aj ks ps) aP ov) (.str "asked") x a j []))) false) a j aP (fun a j tv=>FF (.list pre [.loc 9,.loc (14+1)]) .none ⟨aa,t+1,ln,md,out,main⟩ (cT "case" (bz (aj ks ps) aP ov) (.str "test") x a j []++[.list [] [tv],bx "values" (.loc 13) (.int 0) (.loc (14+2)),.inst 463 14,.list [] []])):=by
 induction f using qd<;>ac_rfl
theorem NW(x:Val)(f:Bool)(a j:Nat):kQ (ah (bT p wo K n k (FF (.list pre [.loc 9]) (aC "value" (lJ f)) ⟨aa,t,ln,md,out,main⟩ (cT "case" (bz (aj ks ps) aP ov) (.str "asked") x a j []))) false) ((2:Nat)≤500∧(1:Nat)≤500∧aP.length+1≤500∧True) (decide ((a:Int)<Int.ofNat aP.length)):=by
 induction f using qd<;>exact⟨kr,kr,kr⟩
theorem Ks{aP:List V}(h:aP.length+1≤500):(2:Nat)≤500∧(1:Nat)≤500∧aP.length+1≤500∧True:=by trivial
theorem NX(x:Val)(f:Bool)(a j:Nat):∀ts b,iA (ah (ah (ah (bE (ah (ah (bT p wo K n k (FF (.list pre [.loc 9]) (aC "value" (lJ f)) ⟨aa,t,ln,md,out,main⟩ (cT "case" (bz (aj ks ps) aP .none) (.str "asked") x a j []))) false) true) (c9 ts b)) true) false) true) True (FF (.list pre []) (.loc 14) ⟨aa,t+1,ln,md,out,main⟩ (cT "case" (bz (aj ks ps) aP .none) (.str "asked") x ((a:Int)+1) 0 []++[dZ "value" .none,.inst 441 13])):=by
 induction f using qd<;>exact(fun _ _=>⟨kr,kr,kr,kr,kr⟩)
theorem NY(x:Val)(f:Bool)(a j:Nat):∀ts b,iA (ah (ah (ah (bE (ah (ah (bT p wo K n k (FF (.list pre [.loc 9]) (aC "value" (lJ f)) ⟨aa,t,ln,md,out,main⟩ (cT "case" (bz (aj ks ps) aP (aj ko po)) (.str "asked") x a j []))) false) true) (c9 ts b)) true) false) true) ((2:Nat)≤500∧True) (FF (.list pre [.loc 9,.loc (13+1)]) .none ⟨aa,t+1,ln,md,out,main⟩ (cT "case" (bz (aj ks ps) aP (aj ko po)) (.str "end") x ((a:Int)+1) 0 []++[bx ko (aj ko po) (.int 0) (.loc (13+2)),.inst 463 13,.list [] []])):=by
 induction f using qd<;>exact(fun _ _=>⟨kr,kr,kr,kr,kr⟩)
theorem Ku(a j:Nat):Ask (ah (bT p wo K n k (FF (.list pre [.loc 9]) (aC "value" (.lst [])) ⟨aa,t,ln,md,out,main⟩ (cT "case" (bz .none aP ov) (.str "test") .none a j []))) false) a j aP (fun a j tv=>FF (.list pre [.loc 9,.loc (15+1)]) .none ⟨aa,t+1,ln,md,out,main⟩ (cA "case" (bz .none aP ov) (.str "test") .none a j []++[.list [] [tv],bx "values" (.loc 14) (.int 0) (.loc (15+2)),.inst 463 15,.list [] []])):=by
 ac_rfl
theorem NZ(a j:Nat):kQ (ah (bT p wo K n k (FF (.list pre [.loc 9]) (aC "value" (.lst [])) ⟨aa,t,ln,md,out,main⟩ (cT "case" (bz .none aP ov) (.str "test") .none a j []))) false) ((2:Nat)≤500∧(1:Nat)≤500∧(1:Nat)≤500∧aP.length+1≤500∧True) (decide ((a:Int)<Int.ofNat aP.length)):=by
 exact⟨kr,kr,kr⟩
theorem Kv{aP:List V}(h:aP.length+1≤500):(2:Nat)≤500∧(1:Nat)≤500∧(1:Nat)≤500∧aP.length+1≤500∧True:=by trivial
theorem N4(a j:Nat):∀ts b,iA (ah (ah (ah (bE (ah (ah (bT p wo K n k (FF (.list pre [.loc 9]) (aC "value" (.lst [])) ⟨aa,t,ln,md,out,main⟩ (cT "case" (bz .none aP .none) (.str "test") .none a j []))) false) true) (c9 ts b)) true) false) true) True (FF (.list pre []) (.loc 15) ⟨aa,t+1,ln,md,out,main⟩ (cA "case" (bz .none aP .none) (.str "test") .none ((a:Int)+1) 0 []++[dZ "value" .none,.inst 441 14])):=by
 exact(fun _ _=>⟨kr,kr,kr,kr,kr⟩)
theorem N5(a j:Nat):∀ts b,iA (ah (ah (ah (bE (ah (ah (bT p wo K n k (FF (.list pre [.loc 9]) (aC "value" (.lst [])) ⟨aa,t,ln,md,out,main⟩ (cT "case" (bz .none aP (aj ko po)) (.str "test") .none a j []))) false) true) (c9 ts b)) true) false) true) ((2:Nat)≤500∧True) (FF (.list pre [.loc 9,.loc (14+1)]) .none ⟨aa,t+1,ln,md,out,main⟩ (cA "case" (bz .none aP (aj ko po)) (.str "end") .none ((a:Int)+1) 0 []++[bx ko (aj ko po) (.int 0) (.loc (14+2)),.inst 463 14,.list [] []])):=by
 exact(fun _ _=>⟨kr,kr,kr,kr,kr⟩)
theorem Kw(a j:Nat):Ask (ah (bT p wo K n k (FF (.list pre [.loc 9]) (aC "value" (.lst [V.none])) ⟨aa,t,ln,md,out,main⟩ (cT "case" (bz .none aP ov) (.str "test") .none a j []))) false) a j aP (fun a j tv=>FF (.list pre [.loc 9,.loc (15+1)]) .none ⟨aa,t+1,ln,md,out,main⟩ (cA "case" (bz .none aP ov) (.str "test") .none a j []++[.list [] [tv],bx "values" (.loc 14) (.int 0) (.loc (15+2)),.inst 463 15,.list [] []])):=by
 ac_rfl
theorem N6(a j:Nat):kQ (ah (bT p wo K n k (FF (.list pre [.loc 9]) (aC "value" (.lst [V.none])) ⟨aa,t,ln,md,out,main⟩ (cT "case" (bz .none aP ov) (.str "test") .none a j []))) false) ((2:Nat)≤500∧(2:Nat)≤500∧(2:Nat)≤500∧(1:Nat)≤400∧(1:Nat)≤500∧aP.length+1≤500∧True) (decide ((a:Int)<Int.ofNat aP.length)):=by
 exact⟨kr,kr,kr⟩
theorem Kx{aP:List V}(h:aP.length+1≤500):(2:Nat)≤500∧(2:Nat)≤500∧(2:Nat)≤500∧(1:Nat)≤400∧(1:Nat)≤500∧aP.length+1≤500∧True:=by trivial
theorem N7(a j:Nat):∀ts b,iA (ah (ah (ah (bE (ah (ah (bT p wo K n k (FF (.list pre [.loc 9]) (aC "value" (.lst [V.none])) ⟨aa,t,ln,md,out,main⟩ (cT "case" (bz .none aP .none) (.str "test") .none a j []))) false) true) (c9 ts b)) true) false) true) True (FF (.list pre []) (.loc 15) ⟨aa,t+1,ln,md,out,main⟩ (cA "case" (bz .none aP .none) (.str "test") .none ((a:Int)+1) 0 []++[dZ "value" .none,.inst 441 14])):=by
 exact(fun _ _=>⟨kr,kr,kr,kr,kr⟩)
theorem N8(a j:Nat):∀ts b,iA (ah (ah (ah (bE (ah (ah (bT p wo K n k (FF (.list pre [.loc 9]) (aC "value" (.lst [V.none])) ⟨aa,t,ln,md,out,main⟩ (cT "case" (bz .none aP (aj ko po)) (.str "test") .none a j []))) false) true) (c9 ts b)) true) false) true) ((2:Nat)≤500∧True) (FF (.list pre [.loc 9,.loc (14+1)]) .none ⟨aa,t+1,ln,md,out,main⟩ (cA "case" (bz .none aP (aj ko po)) (.str "end") .none ((a:Int)+1) 0 []++[bx ko (aj ko po) (.int 0) (.loc (14+2)),.inst 463 14,.list [] []])):=by
 exact(fun _ _=>⟨kr,kr,kr,kr,kr⟩)
theorem Ky(a j:Nat):Ask (ah (bT p wo K n k (FF (.list pre [.loc 9]) (aC "value" (.lst [V.none,V.none])) ⟨aa,t,ln,md,out,main⟩ (cT "case" (bz .none aP ov) (.str "test") .none a j []))) false) a j aP (fun a j tv=>FF (.list pre [.loc 9,.loc (15+1)]) .none ⟨aa,t+1,ln,md,out,main⟩ (cA "case" (bz .none aP ov) (.str "test") .none a j []++[.list [] [tv],bx "values" (.loc 14) (.int 0) (.loc (15+2)),.inst 463 15,.list [] []])):=by
 ac_rfl
theorem N9(a j:Nat):kQ (ah (bT p wo K n k (FF (.list pre [.loc 9]) (aC "value" (.lst [V.none,V.none])) ⟨aa,t,ln,md,out,main⟩ (cT "case" (bz .none aP ov) (.str "test") .none a j []))) false) ((2:Nat)≤500∧(3:Nat)≤500∧(3:Nat)≤500∧(2:Nat)≤400∧(2:Nat)≤500∧(1:Nat)≤400∧(1:Nat)≤500∧aP.length+1≤500∧True) (decide ((a:Int)<Int.ofNat aP.length)):=by
 exact⟨kr,kr,kr⟩
theorem Kz{aP:List V}(h:aP.length+1≤500):(2:Nat)≤500∧(3:Nat)≤500∧(3:Nat)≤500∧(2:Nat)≤400∧(2:Nat)≤500∧(1:Nat)≤400∧(1:Nat)≤500∧aP.length+1≤500∧True:=by trivial
theorem Oa(a j:Nat):∀ts b,iA (ah (ah (ah (bE (ah (ah (bT p wo K n k (FF (.list pre [.loc 9]) (aC "value" (.lst [V.none,V.none])) ⟨aa,t,ln,md,out,main⟩ (cT "case" (bz .none aP .none) (.str "test") .none a j []))) false) true) (c9 ts b)) true) false) true) True (FF (.list pre []) (.loc 15) ⟨aa,t+1,ln,md,out,main⟩ (cA "case" (bz .none aP .none) (.str "test") .none ((a:Int)+1) 0 []++[dZ "value" .none,.inst 441 14])):=by
 exact(fun _ _=>⟨kr,kr,kr,kr,kr⟩)
theorem Ob(a j:Nat):∀ts b,iA (ah (ah (ah (bE (ah (ah (bT p wo K n k (FF (.list pre [.loc 9]) (aC "value" (.lst [V.none,V.none])) ⟨aa,t,ln,md,out,main⟩ (cT "case" (bz .none aP (aj ko po)) (.str "test") .none a j []))) false) true) (c9 ts b)) true) false) true) ((2:Nat)≤500∧True) (FF (.list pre [.loc 9,.loc (14+1)]) .none ⟨aa,t+1,ln,md,out,main⟩ (cA "case" (bz .none aP (aj ko po)) (.str "end") .none ((a:Int)+1) 0 []++[bx ko (aj ko po) (.int 0) (.loc (14+2)),.inst 463 14,.list [] []])):=by
 exact(fun _ _=>⟨kr,kr,kr,kr,kr⟩)
theorem KA(a j:Nat):Ask (ah (bT p wo K n k (FF (.list pre [.loc 9]) (aC "value" (.lst [V.none,V.none,V.none])) ⟨aa,t,ln,md,out,main⟩ (cT "case" (bz .none aP ov) (.str "test") .none a j []))) false) a j aP (fun a j tv=>FF (.list pre [.loc 9,.loc (15+1)]) .none ⟨aa,t+1,ln,md,out,main⟩ (cA "case" (bz .none aP ov) (.str "test") .none a j []++[.list [] [tv],bx "values" (.loc 14) (.int 0) (.loc (15+2)),.inst 463 15,.list [] []])):=by
 ac_rfl
theorem Oc(a j:Nat):kQ (ah (bT p wo K n k (FF (.list pre [.loc 9]) (aC "value" (.lst [V.none,V.none,V.none])) ⟨aa,t,ln,md,out,main⟩ (cT "case" (bz .none aP ov) (.str "test") .none a j []))) false) ((2:Nat)≤500∧(4:Nat)≤500∧(4:Nat)≤500∧(3:Nat)≤400∧(3:Nat)≤500∧(2:Nat)≤400∧(2:Nat)≤500∧(1:Nat)≤400∧(1:Nat)≤500∧aP.length+1≤500∧True) (decide ((a:Int)<Int.ofNat aP.length)):=by
 exact⟨kr,kr,kr⟩
theorem KC{aP:List V}(h:aP.length+1≤500):(2:Nat)≤500∧(4:Nat)≤500∧(4:Nat)≤500∧(3:Nat)≤400∧(3:Nat)≤500∧(2:Nat)≤400∧(2:Nat)≤500∧(1:Nat)≤400∧(1:Nat)≤500∧aP.length+1≤500∧True:=by trivial
theorem Od(a j:Nat):∀ts b,iA (ah (ah (ah (bE (ah (ah (bT p wo K n k (FF (.list pre [.loc 9]) (aC "value" (.lst [V.none,V.none,V.none])) ⟨aa,t,ln,md,out,main⟩ (cT "case" (bz .none aP .none) (.str "test") .none a j []))) false) true) (c9 ts b)) true) false) true) True (FF (.list pre []) (.loc 15) ⟨aa,t+1,ln,md,out,main⟩ (cA "case" (bz .none aP .none) (.str "test") .none ((a:Int)+1) 0 []++[dZ "value" .none,.inst 441 14])):=by
 exact(fun _ _=>⟨kr,kr,kr,kr,kr⟩)
theorem Oe(a j:Nat):∀ts b,iA (ah (ah (ah (bE (ah (ah (bT p wo K n k (FF (.list pre [.loc 9]) (aC "value" (.lst [V.none,V.none,V.none])) ⟨aa,t,ln,md,out,main⟩ (cT "case" (bz .none aP (aj ko po)) (.str "test") .none a j []))) false) true) (c9 ts b)) true) false) true) ((2:Nat)≤500∧True) (FF (.list pre [.loc 9,.loc (14+1)]) .none ⟨aa,t+1,ln,md,out,main⟩ (cA "case" (bz .none aP (aj ko po)) (.str "end") .none ((a:Int)+1) 0 []++[bx ko (aj ko po) (.int 0) (.loc (14+2)),.inst 463 14,.list [] []])):=by
 exact(fun _ _=>⟨kr,kr,kr,kr,kr⟩)
end
def Runs(cx:Cx)(L:Lp)(B:Bs)(pre:LV)(F:Ws→St)(R:Rd)(c:Nat):Prop:=∀N w,aW c R.1.length w→(∀u w',bJ R c w u w'→At cx L 8 B (FF (.list pre []) u w' []) N)→At cx L 8 B (F w) (N+c)
theorem Runs.le(h:Runs cx L B pre F R c)(hc:c≤c'):Runs cx L B pre F R c':=fun N w ok hh=>
 At.le (N:=N+c) (by exact qu ‹_› _) (h N w (ok.le hc (qf _)) fun u w' en=>hh u w' (en.up hc))
def gK(cx:Cx)(L:Lp)(hg c d:Nat):Prop:=∀t:Tree d,Tree.ok d t→∃kb pb,Tree.node d t=aj kb pb∧iP cx L hg c kb (aj kb pb) (Tree.rd d t)
theorem aW.fK{aa:List V}{t ln:Int}{md:ai}{out main:Value}(o:aW (c+1) m ⟨aa,t,ln,md,out,main⟩):aW c m ⟨aa,t+1,ln,md,out,main⟩:=o.tick
section
variable{K:Frag}
theorem Xq(rl:bL L k)(hX:∀b,aF L.env b→B.X b)(ok:aW 1 0 w)
  (h:∀u w',bJ ([],.val x) 1 w u w'→At (az p wo K n) L 8 B (FF (.list pre []) u w' []) N):At (az p wo K n) L 8 B (FF (.list pre [.loc 9]) (aC "value" x.v) w (cT "case" (bz sv aP ov) (.str "end") ay a j vs)) (N+1):=by
 have ot:=ok.t;refine fR [] [.ok cY ((.next,cG),FF (.list pre []) (.loc 14) {w with t:=w.t+1} (cT "case" (bz sv aP ov) (.str "end") ay a j vs++[dZ "value" x.v,.inst 441 13]))] rl hX (by assumption) (.ok bq ?_) (by induction x using Val.casesOn<;>kernel_rfl)
 exact fq (w:={w with t:=w.t+1}) (bh:=aC "value" x.v) (zs:=[14,13]) rfl (fun σ _=>eO (j:=14) (d:=13) (v:=x.v) (by exact ms) (by exact kL) rfl rfl (.closed (bO x))) ok.aa ok.md.closed (h _ _ (.one ok.md))
theorem QH(rl:bL L k)(hX:∀b,aF L.env b→B.X b)(ok:aW (cb+1) R.1.length w0)
  (h:∀u w',bJ R (cb+1) w0 u w'→At (az p wo K n) L 8 B (FF (.list pre []) u w' []) N):
  ∀bh w',bJ R cb w0 bh w'→At (az p wo K n) L 8 B (FF (.list pre [.loc 9]) bh w' (cT "case" (bz sv aP ov) (.str "end") ay a j vs)) (N+1):=by
 intro bh w' en;have cl:=en.cl ok.aa;obtain⟨m1,w1⟩:=R;induction w1 using bu.casesOn with
 |raise z=>
  obtain⟨e,ce,ze,rfl⟩:=en.way;exact dI rl hX cl.1 cl.2 (h _ _ (en.up kU))
 |val x=>
  have hw:bh=aC "value" x.v:=en.way;subst hw;have fS:aW 1 0 w':=en.ok (c':=1) (m:=0) ok;refine Xq rl hX fS fun u w2 cV=>h _ _ ⟨cV.way, ?_, ?_,cV.md⟩
  ·rw[cV.aa,en.aa];exact List.append_nil _
  ·exact tE en.t cV.t (qf _)
theorem i0{pb:V}{R:Rd}{sv ov:V}{aP:List V}{ay:Val}{a j:Int}{xs:List Val}(rl:bL L k)(hX:∀b,aF L.env b→B.X b)(hp:pre.length+hb+1≤1000)
  (ev:iP (az p wo K n) L hb cb kb (aj kb pb) R)(ok:aW (cb+1) R.1.length w)(hz:t9 ((8::9::tr)++[d,d+1,d+2]) []=true)(C8:tr.length=3)
  (hT:∀σ,uI (gD ((8::9::tr)++[d,d+1,d+2])) (· ∈[]) σ (FF (.list pre [.loc 9,.loc (d+1)]) .none w X) (8::9::tr) (cT "case" (bz sv aP ov) (.str "end") ay a j (xs.map Val.v)))
  (e0:(FF (.list pre [.loc 9,.loc (d+1)]) .none w X)[d]? =some (bx kb (aj kb pb) (.int 0) (.loc (d+2))))(e1:(FF (.list pre [.loc 9,.loc (d+1)]) .none w X)[d+1]? =some (.inst 463 d))(e2:(FF (.list pre [.loc 9,.loc (d+1)]) .none w X)[d+2]? =some (.list [] []))
  (h:∀u w',bJ R (cb+1) w u w'→At (az p wo K n) L 8 B (FF (.list pre []) u w' []) N):fZ (az p wo K n) L B (N+1+cb) (FF (.list pre [.loc 9,.loc (d+1)]) .none w X):=
 gB (N:=N+1) (c:=cb) (T:=cT "case" (bz sv aP ov) (.str "end") ay a j (xs.map Val.v)) (node2:=aj kb pb) (tr:=tr) (zs:=[]) (d:=d) rl ev hX hp (ok.le (by exact kU) (qf _)) rfl hz (fun σ _=>hT σ) e0 e1 e2 (fun σ _=>.closed rfl) (n5 rfl) (by rw[C8];rfl) (QH rl hX ok h)
theorem nC{t:aB}{sv ov:V}{aP:List V}{ay:Val}{a j:Int}(rl:bL L k)(hn:0<n)(hX:∀b,aF L.env b→B.X b)(hp:pre.length+4≤1000)
  (gu:t.ok)(ok:aW 11 t.rd.1.length w)(hz:t9 ((8::9::tr)++[d,d+1,d+2]) [d-1]=true)(C8:tr.length=3)
  (hT:∀σ,uI (gD ((8::9::tr)++[d,d+1,d+2])) (· ∈[d-1]) σ (FF (.list pre [.loc 9,.loc (d+1)]) .none w X) (8::9::tr) (cT "case" (bz sv aP ov) (.str "test") ay a j []))
  (e0:(FF (.list pre [.loc 9,.loc (d+1)]) .none w X)[d]? =some (bx "values" (.loc (d-1)) (.int 0) (.loc (d+2))))(e1:(FF (.list pre [.loc 9,.loc (d+1)]) .none w X)[d+1]? =some (.inst 463 d))(e2:(FF (.list pre [.loc 9,.loc (d+1)]) .none w X)[d+2]? =some (.list [] []))
  (e3:(FF (.list pre [.loc 9,.loc (d+1)]) .none w X)[d-1]? =some (.list [] [t.node]))
  (h:∀u w',gy (sA t.rd.2) t.rd.1 11 w u w'→At (az p wo K n) L 8 B (FF (.list pre [.loc 9]) u w' (cT "case" (bz sv aP ov) (.str "test") ay a j [])) N):fZ (az p wo K n) L B (N+11) (FF (.list pre [.loc 9,.loc (d+1)]) .none w X):=
 zK (N:=N) (c:=11) (T:=cT "case" (bz sv aP ov) (.str "test") ay a j []) (node:=.lst [t.node]) (node2:=.loc (d-1)) (tr:=tr) (zs:=[d-1]) (d:=d) rl (UR rl hn gu w ok) hX hp ok.aa ok.md.closed rfl hz (fun σ _=>hT σ) e0 e1 e2
  (fun σ _=>.lst (by exact ms) e3 (.cons (.closed (se t)) .nil)) (n5 (xs:=[]) rfl) (by rw[C8];rfl) h
noncomputable def tl{α:Type}:List (List aB×α)→Nat
 |[]=>0
 |w::ws=>w.1.length+tl ws
noncomputable def CA(c nv left:Nat):Nat:=2*nv+18*left+(c+4)
noncomputable def oA(pre:LV)(node:V)(ay:Val)(a j:Nat)(vs:List Val)(w:Ws):St:=FF (.list pre [.loc 9]) (aC "value" (.lst (vs.map Val.v))) w (cT "case" node (.str "test") ay a j [])
theorem KD(rl:bL L k)(hX:∀b,aF L.env b→B.X b)(gu:t.ok)
  (hA:∀vs,vs.length≤3→(∀x∈vs,x.ok)→t.rd.2=.vals vs→Runs (az p wo K n) L B pre (oA pre (bz sv aP ov) ay a j vs) (c7 (Tree.rd d) sj o body rest ts vs) (CA c vs.length left))
  (ok:aW (11+CA c 3 left) (fQ (Tree.rd d) sj o body rest (t::ts)).1.length w0)
  (h:∀u w',bJ (fQ (Tree.rd d) sj o body rest (t::ts)) (11+CA c 3 left) w0 u w'→At (az p wo K n) L 8 B (FF (.list pre []) u w' []) N):
  ∀u w',gy (sA t.rd.2) t.rd.1 11 w0 u w'→At (az p wo K n) L 8 B (FF (.list pre [.loc 9]) u w' (cT "case" (bz sv aP ov) (.str "test") ay a j [])) (N+CA c 3 left):=by
 intro u w' en;have cl:=en.cl ok.aa;have jO:=en.aa;have hw:=en.way;rw[qZ]at ok h;have tv:=(H8 gu);have c1:1≤CA c 3 left:=by unfold CA;exact rF
 induction hr:t.rd using qn with
 |mk m wd=>
  rw[hr]at ok h jO hw;induction wd using dK.casesOn with
  |raise z=>
   obtain⟨e,ce,ze,rfl⟩:=hw;refine At.le (N:=N+1) (by exact qu ‹_› _) (dI rl hX cl.1 cl.2 (h _ _ ⟨⟨e,ce,ze,rfl⟩,jO,tF en.t kT,.inr ⟨cl.2,_,rfl⟩⟩))
  |vals vs=>
   have hw:u=aC "value" (.lst (vs.map Val.v)):=hw;subst hw;have Wl:=tv vs (by rw[hr]);have le:CA c vs.length left≤CA c 3 left:=by unfold CA;lia
   have fS:aW (CA c vs.length left) (c7 (Tree.rd d) sj o body rest ts vs).1.length w':=en.mD (ok.le (by exact qu ‹_› _) (by rw[hr];show _≤(m++_).length;rw[List.length_append];exact qf _));refine At.le (N:=N+CA c vs.length left) (by exact qu ‹_› _) (hA vs Wl.1 Wl.2 (by rw[hr]) N w' fS fun u w2 cV=>h _ _ ⟨cV.way, ?_, ?_,cV.md⟩)
   ·rw[cV.aa,jO];show _=_++(m++_).map Mark.v;simp
   ·exact tE en.t cV.t (qu le _)
end
section
variable{K:Frag}
theorem Xr{ps ov:V}{d hg c a:Nat}{j:Int}{ws:List (List aB×Tree d)}{aS:List aB}{body:Tree d}{x y:Val}{xs:List Val}(rl:bL L k)(hX:∀b,aF L.env b→B.X b)(hp:pre.length+hg+2≤1000)
  (HB:gK (az p wo K n) L hg c d)(eN:Tree.ok d body)(hl:ws.length≤3)(ea:ws[a]? =some (aS,body))(hy:y.holds=true):
  Runs (az p wo K n) L B pre (fun w=>FF (.list pre [.loc 9]) (aC "value" y.v) w (cT "case" (bz (aj ks ps) (ws.map (bI (Tree.node d))) ov) (.str "asked") x (a:Int) j (xs.map Val.v))) (Tree.rd d body) (c+4):=by
 intro N w ok h;obtain⟨aa,t,ln,md,out,main⟩:=w;have ot:t+((c+4:Nat):Int)≤20000:=ok.t;obtain⟨kb,pb,en,eb⟩:=HB body eN;refine At.le (N:=(N+1+(c+2))+1) (by lia) ?_;refine cj rl hX (by rw[bU];exact dU) ?_;have ev:(ws.map (bI (Tree.node d)))[a]? =some (c9 (aS.map aB.node) (kI (aj kb pb))):=by rw[List.getElem?_map,ea,←en];rfl
 have fin:fZ (az p wo K n) L B (N+1+(c+2)) (FF (.list pre [.loc 9,.loc (13+1)]) .none ⟨aa,t+1,ln,md,out,main⟩ (cT "case" (bz (aj ks ps) (ws.map (bI (Tree.node d))) ov) (.str "end") x (a:Int) j (xs.map Val.v)++[bx "seq" (kI (aj kb pb)) (.int 0) (.loc (13+2)),.inst 463 13,.list [] []])):=by
  exact i0 (tr:=[10,11,12]) (d:=13) (kb:="seq") (R:=Tree.rd d body) rl hX (hb:=hg+1) (by assumption) (AY rl eb) (ok.le (by exact iS) (qf _)).fK rfl rfl (fun σ=>n6 rfl rfl rfl rfl rfl rfl bY) rfl rfl rfl fun u w' e=>h u w' e.tick
 induction y using Val.casesOn with
 |none=>exact ft hy
 |int i=>
  refine ck (t:=t) kr (nd (p:=cY) kr bq) kr (by lia) ?_;refine ie _ (a:Int) a _ kr (nd (p:=cY) kr bq) rfl ev (by rw[List.length_map];lia) ?_;exact bC (p:=(2:Nat)≤500∧True) ⟨kr,kr,kr,kr,kr⟩ dJ fin
 |bool b=>
  induction b using qd with
  |false=>exact ft hy
  |true=>
   refine ck (t:=t) kr (nd (p:=cY) kr bq) kr (by lia) ?_;refine ie _ (a:Int) a _ kr (nd (p:=cY) kr bq) rfl ev (by rw[List.length_map];lia) ?_;exact bC (p:=(2:Nat)≤500∧True) ⟨kr,kr,kr,kr,kr⟩ dJ fin
theorem F5{y:Val}(h:y.holds=false):∃f,y.v=lJ f:=by
 induction y using Val.casesOn with
 |none=>exact⟨false,rfl⟩
 |int i=>exact tf h
 |bool b=>induction b using qd with
  |false=>exact⟨true,rfl⟩
  |true=>exact tf h
noncomputable def F6(pre:LV)(node:V)(ay:Val)(a j:Nat)(f:Bool)(vs:List Val)(w:Ws):St:=FF (.list pre [.loc 9]) (aC "value" (lJ f)) w (cT "case" node (.str "asked") ay a j (vs.map Val.v))
theorem A9{ps ov:V}{d hg c a j left:Nat}{ws:List (List aB×Tree d)}{aS:List aB}{o:Option (Tree d)}{body:Tree d}{rest:List (List aB×Tree d)}{ts:List aB}{x v:Val}{vs:List Val}(rl:bL L k)(hX:∀b,aF L.env b→B.X b)(hp:pre.length+hg+2≤1000)
  (HB:gK (az p wo K n) L hg c d)(eN:Tree.ok d body)(hl:ws.length≤3)(ea:ws[a]? =some (aS,body))
  (hB:∀f,Runs (az p wo K n) L B pre (F6 pre (bz (aj ks ps) (ws.map (bI (Tree.node d))) ov) x a j f vs) (c7 (Tree.rd d) (some x) o body rest ts vs) (CA c vs.length left))
  (ok:aW (1+CA c vs.length left) (c7 (Tree.rd d) (some x) o body rest ts (v::vs)).1.length w0)
  (h:∀u w',bJ (c7 (Tree.rd d) (some x) o body rest ts (v::vs)) (1+CA c vs.length left) w0 u w'→At (az p wo K n) L 8 B (FF (.list pre []) u w' []) N):
  ∀u w',bJ (oU v x) 1 w0 u w'→At (az p wo K n) L 8 B (FF (.list pre [.loc 9]) u w' (cT "case" (bz (aj ks ps) (ws.map (bI (Tree.node d))) ov) (.str "asked") x a j (vs.map Val.v))) (N+CA c vs.length left):=by
 intro u w' en;have cl:=en.cl ok.aa;have jO:=en.aa;have hw:o9 (cL v x) u:=en.way;have c1:c+4≤CA c vs.length left:=by unfold CA;exact dU
 rw[lX]at ok h;have hs:wX (some x) v=([Mark.asked v x],cL v x):=rfl;rw[hs]at ok h;induction hr:cL v x using bu.casesOn with
 |raise z=>
  rw[hr]at ok h hw;obtain⟨e,ce,ze,rfl⟩:=hw;exact At.le (N:=N+1) (by lia) (dI rl hX cl.1 cl.2 (h _ _ ⟨⟨e,ce,ze,rfl⟩,jO,tF en.t kT,en.md⟩))
 |val y=>
  rw[hr]at ok h hw;have hw:u=aC "value" y.v:=hw;subst hw;dsimp only at ok h;by_cases hy:y.holds=true
  ·rw[if_pos hy]at ok h;have fS:aW (CA c vs.length left) (Tree.rd d body).1.length w':=en.ok (ok.le (qf _) (by show 1+_≤([_]++_).length;simp;lia));refine At.le (N:=N+(c+4)) (by exact qu ‹_› _) (Xr rl hX hp HB eN hl ea hy N w' (fS.le c1 (qf _)) fun u w2 cV=>h _ _ ⟨cV.way, ?_, ?_,cV.md⟩)
   ·rw[cV.aa,jO];simp[Mine.Internal.after,oU]
   ·exact tE en.t cV.t (qu c1 _)
  ·rw[if_neg hy]at ok h;have hy:y.holds=false:=by simpa using hy
   obtain⟨f,ef⟩:=F5 hy;have fS:aW (CA c vs.length left) (c7 (Tree.rd d) (some x) o body rest ts vs).1.length w':=en.ok (ok.le (qf _) (by show 1+_≤([_]++_).length;simp;lia));have key:=hB f N w' fS fun u w2 cV=>h _ _ ⟨cV.way,by rw[cV.aa,jO];simp[Mine.Internal.after,oU],tE en.t cV.t (qf _),cV.md⟩;unfold F6 at key;rw[ef];exact key
end
theorem Gd.mono{S:Spec}{pre:Nat→Addr→List V→St→Prop}{α:Type}{r:aA α}{Q Q':α→Prop}(h:∀a,Q a→Q' a)(g:Gd S pre r Q):Gd S pre r Q':=⟨Good.mono h g.out⟩
section
variable{K:Frag}
theorem nD(hz:t9 [] [e+1,e]=true)(ok:aW c 0 w)(e0:(FF (.list pre []) (.loc (e+1)) w X)[e+1]? =some (.inst 441 e))(e1:(FF (.list pre []) (.loc (e+1)) w X)[e]? =some (dZ "value" .none))
  (h:∀u w',bJ ([],.val .none) c w u w'→At (az p wo K n) L 8 B (FF (.list pre []) u w' []) N):fZ (az p wo K n) L B N (FF (.list pre []) (.loc (e+1)) w X):=by
 refine fq (bh:=aC "value" .none) (zs:=[e+1,e]) hz (fun σ _=>eO (j:=e+1) (d:=e) (v:=.none) (by exact ms) (by exact kL) e0 e1 (.closed rfl)) ok.aa ok.md.closed (h _ _ ⟨rfl, ?_, ?_,.inl ok.md⟩)
 ·show w.aa=w.aa++[];exact(List.append_nil _).symm
 ·lia
theorem fZ.le{st:St}{N N':Nat}(h:N≤N')(q:fZ cx L B N st):fZ cx L B N' st:=fun σ hs=>by
 obtain⟨aD,z,st',f,a⟩:=q σ hs;exact⟨aD,z,st',f,At.le h a⟩
theorem jx.le(h:N≤N')(t:jx cx L B N q):jx cx L B N' q:=⟨t.1,t.2.1,t.2.2.le h⟩
noncomputable def Val.nb:Val→Prop
 |.bool _=>False
 |_=>True
theorem UU{l:aH}(h:l.rd=(m,.val x)):x.nb:=by
 induction l using aH.casesOn with
 |gZ i=>injection h with _ h;injection h
 |_=>injection h with _ h;injection h with h;exact h▸trivial
theorem F7{ls:List aH}:∀{vs:List Val},(bZ ls).2=.vals vs→∀v∈vs,v.nb:=by
 induction ls with
 |nil=>intro vs h v hv;injection h with h;rw[←h]at hv;cases hv
 |cons l ls ih=>
  intro vs h v hv;obtain⟨m,x,ys,hr,hq,e⟩:=A5 h;rw[e]at hv;rcases List.mem_cons.mp hv with q|q
  ·exact q▸UU hr
  ·exact ih hq v q
theorem UW{t:aB}(h:t.rd.2=.vals vs):∀v∈vs,v.nb:=by
 induction t using aB.casesOn with
 |leaf l=>exact F7 (ls:=[l]) h
 |iN ls=>exact F7 h
 |jc l=>
  induction hr:l.rd using qn with
  |mk m w=>
   induction w using bu.casesOn with
   |raise z=>simp[aB.rd,hr]at h
   |val y=>
    rw[aB.rd,hr]at h;injection h with h;subst h;intro v hv;induction l using aH.casesOn with
    |int i=>cases hr;simp at hv;subst hv;trivial
    |nil=>cases hr;cases hv
    |gZ i=>cases hr
theorem nE{ay:Val}{d c a j:Nat}{ws:List (List aB×Tree d)}{o:Option (Tree d)}{aS:List aB}{body:Tree d}{rest:List (List aB×Tree d)}{r:aA cz}{sT:Int→Int→V→St}{p1:Prop}{w1:Ws}(rl:bL L k)(hX:∀b,aF L.env b→B.X b)
  (A:Ask r a j (ws.map (bI (Tree.node d))) sT)(F:kQ r p1 (decide ((a:Int)<Int.ofNat (ws.map (bI (Tree.node d))).length)))(Di:p1)
  (hl:ws.length≤3)(bX:gQ ws)(ha:ws.drop a=(aS,body)::rest)(hj:j≤aS.length)
  (IH:∀(a' j':Nat) (cg:List aB) (gz:Tree d) (bf:List (List aB×Tree d)) (eu:List Val),(cg.drop j').length+tl bf<(aS.drop j).length+tl rest→ws.drop a'=(cg,gz)::bf→j'≤cg.length→eu.length≤3→(∀v∈eu,v.ok)→(∀v∈eu,v.nb)→
   Runs (az p wo K n) L B pre (oA pre (bz sv (ws.map (bI (Tree.node d))) ov) ay a' j' eu) (c7 (Tree.rd d) sj o gz bf (cg.drop j') eu) (CA c eu.length ((cg.drop j').length+tl bf)))
  (HT:∀(a' j':Nat) (t:aB) (N':Nat),t.ok→aW 11 t.rd.1.length w1→(∀u w',gy (sA t.rd.2) t.rd.1 11 w1 u w'→At (az p wo K n) L 8 B (FF (.list pre [.loc 9]) u w' (cT "case" (bz sv (ws.map (bI (Tree.node d))) ov) (.str "test") ay a' j' [])) N')→fZ (az p wo K n) L B (N'+11) (sT a' j' t.node))
  (HO:aS.drop j=[]→∀ts b,aW (c+1) (lR (Tree.rd d) (.val .none) o).1.length w1→(∀u w',bJ (lR (Tree.rd d) (.val .none) o) (c+1) w1 u w'→At (az p wo K n) L 8 B (FF (.list pre []) u w' []) N)→Gd (dR n) aI (ah (ah (ah (bE (ah r true) (c9 ts b)) true) false) true) (jx (az p wo K n) L B (N+(c+1))))
  (ok:aW (18*((aS.drop j).length+tl rest)+(c+3)) (fQ (Tree.rd d) sj o body rest (aS.drop j)).1.length w1)
  (h:∀u w',bJ (fQ (Tree.rd d) sj o body rest (aS.drop j)) (18*((aS.drop j).length+tl rest)+(c+3)) w1 u w'→At (az p wo K n) L 8 B (FF (.list pre []) u w' []) N):
  Gd (dR n) aI r (jx (az p wo K n) L B (N+(18*((aS.drop j).length+tl rest)+(c+3)))):=by
 have Zy:∀{a':Nat} {cg:List aB} {b':Tree d} {bf:List (List aB×Tree d)},ws.drop a'=(cg,b')::bf→∀t∈cg,t.ok:=fun{a' cg b' bf} e t ht=>by
  have e2:ws[a']? =some (cg,b'):=by
   have:=congrArg (·[0]?) e
   simpa using this
  exact(bX _ (qD e2)).1.2 t ht
 have next:∀{a' j':Nat} {cg:List aB} {b':Tree d} {bf:List (List aB×Tree d)} {t:aB} {ts:List aB},ws.drop a'=(cg,b')::bf→cg.drop j'=t::ts→fQ (Tree.rd d) sj o body rest (aS.drop j)=fQ (Tree.rd d) sj o b' bf (t::ts)→ts.length+1+tl bf=(aS.drop j).length+tl rest→
   fZ (az p wo K n) L B (N+(18*((aS.drop j).length+tl rest)+(c+3))) (sT (a':Int) ((j'+1:Nat):Int) t.node):=fun{a' j' cg b' bf t ts} e e2 e3 e4=>by
  have ht:t.ok:=Zy e t (List.mem_of_mem_drop (by rw[e2];exact qi));have e5:cg.drop (j'+1)=ts:=by rw[←List.drop_drop,e2];rfl
  have lj:j'<cg.length:=by
   have:=congrArg List.length e2;simp at this;lia
  have cost:18*((aS.drop j).length+tl rest)+(c+3)=11+CA c 3 (ts.length+tl bf):=by unfold CA;lia
  rw[e3,cost]at h ok;rw[cost];have lt:t.rd.1.length≤(fQ (Tree.rd d) sj o b' bf (t::ts)).1.length:=by
   rw[qZ];induction t.rd using qn with
   |mk m wd=>induction wd using dK.casesOn with
    |raise z=>exact qf _
    |vals vs=>simp[Mine.Internal.after]
  have:=HT a' (j'+1) t (N+CA c 3 (ts.length+tl bf)) ht (ok.le (by exact kT) lt) (KD rl hX ht (fun vs h1 h2 h3=>by
   have:=IH a' (j'+1) cg b' bf vs (by rw[e5];lia) e (by assumption) h1 h2 (UW h3);rw[e5]at this;exact this) ok h)
  exact this.le (by lia)
 refine Xp A F Di hl (fun w hw=>(bX w hw).1.1) ha hj (fun t ts e=>next ha e (by rw[e]) (by rw[e];rfl)) (fun e yY b1 A6 t ts e2 e3=> ?_) fun e e2 ts b=> ?_
 ·subst e2 e3;have uL:ws.drop (a+1)=(t::ts,b1)::A6:=by rw[←List.drop_drop,ha];rfl
  exact next (j':=0) uL rfl (by rw[e];rfl) (by rw[e];simp[tl])
 ·subst e2;have e3:fQ (Tree.rd d) sj o body [] (aS.drop j)=lR (Tree.rd d) (.val .none) o:=by rw[e];rfl
  rw[e3]at h ok;exact(HO e ts b (ok.le (by lia) (qf _)) fun u w' en=>h u w' (en.up (by lia))).mono fun q tq=>tq.le (by lia)
end
def iu(cx:Cx)(L:Lp)(hg c d:Nat)(o:Option (Tree d))(ov:V):Prop:=(o=none∧ov=.none)∨∃(t:Tree d) (ko:Str) (po:V),o=some t∧ov=aj ko po∧iP cx L hg c ko (aj ko po) (Tree.rd d t)
section
variable{K:Frag}
theorem Ba:(oU v x).1.length≤(c7 (Tree.rd d) (some x) o body rest ts (v::vs)).1.length:=by
 rw[lX,show wX (some x) v=([Mark.asked v x],cL v x)from rfl];induction cL v x using bu.casesOn with
 |raise z=>exact qf _
 |val y=>
  dsimp only;by_cases hy:y.holds=true
  ·rw[if_pos hy];exact rF
  ·rw[if_neg hy];exact rF
section
variable{ws:List (List aB×Tree d)}{o:Option (Tree d)}{ov:V}{x v:Val}{vs:List Val}{aS ts:List aB}{body:Tree d}{rest:List (List aB×Tree d)}
theorem Zz(rl:bL L k)(hn:0<n)(hX:∀b,aF L.env b→B.X b)(eU:2≤hg)(hp:pre.length+hg+2≤1000)(HB:gK (az p wo K n) L hg c d)(eN:Tree.ok d body)(hl:ws.length≤3)(ea:ws[a]? =some (aS,body))(fD:x.ok)(uG:v.ok)(hv:vs.length≤3)
  (hB:∀f,Runs (az p wo K n) L B pre (F6 pre (bz (aj ks ps) (ws.map (bI (Tree.node d))) ov) x a j f vs) (c7 (Tree.rd d) (some x) o body rest ts vs) (CA c vs.length left)):
  Runs (az p wo K n) L B pre (oA pre (bz (aj ks ps) (ws.map (bI (Tree.node d))) ov) x a j (v::vs)) (c7 (Tree.rd d) (some x) o body rest ts (v::vs)) (1+CA c vs.length left+1):=by
 intro N w ok h;have lw:(ws.map (bI (Tree.node d))).length+1≤500:=by rw[List.length_map];lia
 obtain⟨aa,t,ln,md,out,main⟩:=w;have ot:t+((1+CA c vs.length left+1:Nat):Int)≤20000:=ok.t;refine At.le (N:=(N+CA c vs.length left+1)+1) (by lia) ?_;refine cj rl hX (by show 8≤(FF _ _ _ _).length;rw[bU];exact dU) ?_;refine ck (t:=t) kr (nd (p:=([V.loc 9]:List V).length+1≤500∧True) kr bq) kr (by lia) ?_;refine bC (p:=(2:Nat)≤500∧(vs.map Val.v).length+1+1≤500∧(vs.map Val.v).length+1+1≤500∧(vs.map Val.v).length+1≤400∧(2:Nat)≤500∧True)
  (st:=FF (.list pre [.loc 9,.loc (15+1)]) .none ⟨aa,t+1,ln,md,out,main⟩ (cA "case" (bz (aj ks ps) (ws.map (bI (Tree.node d))) ov) (.str "asked") x (a:Int) (j:Int) (vs.map Val.v)++[.list [] [x.v],bx "sending" (.tup [v.v,.str "===",.loc 14,.none,.str "call"]) (.int 0) (.loc (15+2)),.inst 463 15,.list [] []]))
  (by induction x using Val.casesOn<;>induction v using Val.casesOn<;>exact⟨kr,kr,kr,kr,kr⟩) (by simp;lia) ?_
 refine gB (N:=N+CA c vs.length left) (c:=1) (T:=cT "case" (bz (aj ks ps) (ws.map (bI (Tree.node d))) ov) (.str "asked") x (a:Int) (j:Int) (vs.map Val.v)) (node:=vp v x) (node2:=.tup [v.v,.str "===",.loc 14,.none,.str "call"]) (tr:=[10,11,13]) (zs:=[14]) (d:=15) rl (vq rl hn uG fD) hX (by lia) ((ok.le (by exact qo rfl) Ba).fK) (sr v x) rfl
  (fun σ _=>jf rfl rfl rfl rfl rfl rfl bY) rfl rfl rfl (fun σ _=>.tup (.cons (.closed (bO v)) (.cons (.closed rfl) (.cons (.lst (by exact ms) rfl (.cons (.closed (bO x)) .nil)) (.cons (.closed rfl) (.cons (.closed rfl) .nil)))))) (n5 rfl) rfl ?_
 exact A9 rl hX hp HB eN hl ea hB ok.fK fun u w' e=>h u w' e.tick
theorem ZA(rl:bL L k)(hn:0<n)(hX:∀b,aF L.env b→B.X b)(eU:2≤hg)(hp:pre.length+hg+2≤1000)(HB:gK (az p wo K n) L hg c d)(eN:Tree.ok d body)(hl:ws.length≤3)(ea:ws[a]? =some (aS,body))(fD:x.ok)(uG:v.ok)(hv:vs.length≤3)
  (hB:∀f,Runs (az p wo K n) L B pre (F6 pre (bz (aj ks ps) (ws.map (bI (Tree.node d))) ov) x a j f vs) (c7 (Tree.rd d) (some x) o body rest ts vs) (CA c vs.length left))(f:Bool):
  Runs (az p wo K n) L B pre (F6 pre (bz (aj ks ps) (ws.map (bI (Tree.node d))) ov) x a j f (v::vs)) (c7 (Tree.rd d) (some x) o body rest ts (v::vs)) (1+CA c vs.length left+1):=by
 intro N w ok h;have lw:(ws.map (bI (Tree.node d))).length+1≤500:=by rw[List.length_map];lia
 obtain⟨aa,t,ln,md,out,main⟩:=w;have ot:t+((1+CA c vs.length left+1:Nat):Int)≤20000:=ok.t;refine At.le (N:=(N+CA c vs.length left+1)+1) (by lia) ?_;refine cj rl hX (by show 8≤(FF _ _ _ _).length;rw[bU];exact dU) ?_;refine ck (t:=t) (by induction f using qd<;>kernel_rfl) (nd (p:=([V.loc 9]:List V).length+1≤500∧True) (by induction f using qd<;>kernel_rfl) bq) (by induction f using qd<;>kernel_rfl) (by lia) ?_
 refine bC (p:=(2:Nat)≤500∧(vs.map Val.v).length+1+1≤500∧(vs.map Val.v).length+1≤400∧(2:Nat)≤500∧True)
  (st:=FF (.list pre [.loc 9,.loc (14+1)]) .none ⟨aa,t+1,ln,md,out,main⟩ (cT "case" (bz (aj ks ps) (ws.map (bI (Tree.node d))) ov) (.str "asked") x (a:Int) (j:Int) (vs.map Val.v)++[.list [] [x.v],bx "sending" (.tup [v.v,.str "===",.loc 13,.none,.str "call"]) (.int 0) (.loc (14+2)),.inst 463 14,.list [] []]))
  (by induction f using qd<;>induction x using Val.casesOn<;>induction v using Val.casesOn<;>exact⟨kr,kr,kr,kr,kr⟩) (by simp;lia) ?_
 refine gB (N:=N+CA c vs.length left) (c:=1) (T:=cT "case" (bz (aj ks ps) (ws.map (bI (Tree.node d))) ov) (.str "asked") x (a:Int) (j:Int) (vs.map Val.v)) (node:=vp v x) (node2:=.tup [v.v,.str "===",.loc 13,.none,.str "call"]) (tr:=[10,11,12]) (zs:=[13]) (d:=14) rl (vq rl hn uG fD) hX (by lia) ((ok.le (by lia) Ba).fK) (sr v x) rfl
  (fun σ _=>n6 rfl rfl rfl rfl rfl rfl bY) rfl rfl rfl (fun σ _=>.tup (.cons (.closed (bO v)) (.cons (.closed rfl) (.cons (.lst (by exact ms) rfl (.cons (.closed (bO x)) .nil)) (.cons (.closed rfl) (.cons (.closed rfl) .nil)))))) (n5 rfl) rfl ?_
 exact A9 rl hX hp HB eN hl ea hB ok.fK fun u w' e=>h u w' e.tick
def KG(cx:Cx)(L:Lp)(B:Bs)(pre:LV)(cv:V)(x:Val)(c:Nat){d:Nat}(ws:List (List aB×Tree d))(o:Option (Tree d))(m:Nat):Prop:=∀(a j:Nat) (ts:List aB) (body:Tree d) (rest:List (List aB×Tree d)) (vs:List Val),
 (ts.drop j).length+tl rest<m→ws.drop a=(ts,body)::rest→j≤ts.length→vs.length≤3→(∀v∈vs,v.ok)→(∀v∈vs,v.nb)→Runs cx L B pre (oA pre cv x a j vs) (c7 (Tree.rd d) (some x) o body rest (ts.drop j) vs) (CA c vs.length ((ts.drop j).length+tl rest))
theorem Xs(rl:bL L k)(hn:0<n)(hX:∀b,aF L.env b→B.X b)(eU:2≤hg)(hp:pre.length+hg+2≤1000)(hl:ws.length≤3)(bX:gQ ws)(hO:iu (az p wo K n) L hg c d o ov)(ha:ws.drop a=(aS,body)::rest)(hj:j≤aS.length)
  (IH:KG (az p wo K n) L B pre (bz (aj ks ps) (ws.map (bI (Tree.node d))) ov) x c ws o ((aS.drop j).length+tl rest)):Runs (az p wo K n) L B pre (oA pre (bz (aj ks ps) (ws.map (bI (Tree.node d))) ov) x a j []) (fQ (Tree.rd d) (some x) o body rest (aS.drop j)) (18*((aS.drop j).length+tl rest)+(c+3)+1):=by
 intro N w ok h;have lw:(ws.map (bI (Tree.node d))).length+1≤500:=by rw[List.length_map];lia
 obtain⟨aa,t,ln,md,out,main⟩:=w;have ot:t+(((18*((aS.drop j).length+tl rest)+(c+3))+1:Nat):Int)≤20000:=ok.t;refine cj rl hX (by show 8≤(FF _ _ _ _).length;rw[bU];lia) ?_;refine ck (t:=t) kr (nd (p:=([V.loc 9]:List V).length+1≤500∧True) kr bq) kr (by lia) ?_;refine nE (sj:=some x) (ay:=x) (w1:=⟨aa,t+1,ln,md,out,main⟩) rl hX (NU x a j) (QE x a j) (NV lw) hl bX ha hj IH (fun a' j' tt N' gu ok h=> ?_) (fun _ ts b ok h=> ?_) ok.fK fun u w' e=>h u w' e.tick
 ·exact nC (tr:=[10,11,13]) (d:=15) rl hn hX (by lia) gu ok rfl rfl (fun σ=>jf (xs:=[]) rfl rfl rfl rfl rfl rfl bY) rfl rfl rfl rfl h
 ·rcases hO with⟨rfl,rfl⟩|⟨to,ko,po,rfl,rfl,eo⟩
  ·exact bC (QF x a j ts b) trivial (nD (e:=14) rfl (ok.le (qf _) (qm _)) rfl rfl fun u w' e=>(h u w' (e.up (by exact iS))).le (by exact kT))
  ·exact bC (QG x a j ts b) dJ ((i0 (tr:=[10,11,13]) (d:=14) (xs:=[]) rl hX (by exact qG ‹_›) eo ok rfl rfl (fun σ=>jf (xs:=[]) rfl rfl rfl rfl rfl rfl bY) rfl rfl rfl h).le (by lia))
theorem Xu(rl:bL L k)(hn:0<n)(hX:∀b,aF L.env b→B.X b)(eU:2≤hg)(hp:pre.length+hg+2≤1000)(hl:ws.length≤3)(bX:gQ ws)(hO:iu (az p wo K n) L hg c d o ov)(ha:ws.drop a=(aS,body)::rest)(hj:j≤aS.length)
  (IH:KG (az p wo K n) L B pre (bz (aj ks ps) (ws.map (bI (Tree.node d))) ov) x c ws o ((aS.drop j).length+tl rest))(f:Bool):Runs (az p wo K n) L B pre (F6 pre (bz (aj ks ps) (ws.map (bI (Tree.node d))) ov) x a j f []) (fQ (Tree.rd d) (some x) o body rest (aS.drop j)) (18*((aS.drop j).length+tl rest)+(c+3)+1):=by
 intro N w ok h;have lw:(ws.map (bI (Tree.node d))).length+1≤500:=by rw[List.length_map];lia
 obtain⟨aa,t,ln,md,out,main⟩:=w;have ot:t+(((18*((aS.drop j).length+tl rest)+(c+3))+1:Nat):Int)≤20000:=ok.t;refine cj rl hX (by show 8≤(FF _ _ _ _).length;rw[bU];exact dU) ?_;refine ck (t:=t) (by induction f using qd<;>kernel_rfl) (nd (p:=([V.loc 9]:List V).length+1≤500∧True) (by induction f using qd<;>kernel_rfl) bq) (by induction f using qd<;>kernel_rfl) (by lia) ?_
 refine nE (sj:=some x) (ay:=x) (w1:=⟨aa,t+1,ln,md,out,main⟩) rl hX (Kr x f a j) (NW x f a j) (Ks lw) hl bX ha hj IH (fun a' j' tt N' gu ok h=> ?_) (fun _ ts b ok h=> ?_) ok.fK fun u w' e=>h u w' e.tick
 ·exact nC (tr:=[10,11,12]) (d:=14) rl hn hX (by lia) gu ok rfl rfl (fun σ=>n6 (xs:=[]) rfl rfl rfl rfl rfl rfl bY) rfl rfl rfl rfl h
 ·rcases hO with⟨rfl,rfl⟩|⟨to,ko,po,rfl,rfl,eo⟩
  ·exact bC (NX x f a j ts b) trivial (nD (e:=13) rfl (ok.le (qf _) (qm _)) rfl rfl fun u w' e=>(h u w' (e.up (by lia))).le (by lia))
  ·exact bC (NY x f a j ts b) dJ ((i0 (tr:=[10,11,12]) (d:=13) (xs:=[]) rl hX (by lia) eo ok rfl rfl (fun σ=>n6 (xs:=[]) rfl rfl rfl rfl rfl rfl bY) rfl rfl rfl h).le (by lia))
end
theorem ZC(rl:bL L k)(hn:0<n)(hX:∀b,aF L.env b→B.X b)(eU:2≤hg)(hp:pre.length+hg+2≤1000)
  (HB:gK (az p wo K n) L hg c d)(hl:ws.length≤3)(bX:gQ ws)(hO:iu (az p wo K n) L hg c d o ov)(fD:x.ok):
  ∀(M a j:Nat) (aS:List aB) (body:Tree d) (rest:List (List aB×Tree d)) (vs:List Val),4*((aS.drop j).length+tl rest)+vs.length=M→ws.drop a=(aS,body)::rest→j≤aS.length→vs.length≤3→(∀v∈vs,v.ok)→
   Runs (az p wo K n) L B pre (oA pre (bz (aj ks ps) (ws.map (bI (Tree.node d))) ov) x a j vs) (c7 (Tree.rd d) (some x) o body rest (aS.drop j) vs) (CA c vs.length ((aS.drop j).length+tl rest))∧
   ∀f,Runs (az p wo K n) L B pre (F6 pre (bz (aj ks ps) (ws.map (bI (Tree.node d))) ov) x a j f vs) (c7 (Tree.rd d) (some x) o body rest (aS.drop j) vs) (CA c vs.length ((aS.drop j).length+tl rest)):=by
 intro M;induction M using Nat.strongRecOn with
 |ind M ih=>
 intro a j aS body rest vs hM ha hj hv uG;have ea:ws[a]? =some (aS,body):=by
  have:=congrArg (·[0]?) ha
  simpa using this
 induction vs using qh with
 |cons v vs=>
  rw[List.length_cons]at hM hv;have hB:=fun f=>(ih _ (by exact qA ‹_›) a j aS body rest vs rfl ha hj (by exact qL ‹_›) fun y hy=>uG y (qj _ hy)).2 f;have e1:CA c (v::vs).length ((aS.drop j).length+tl rest)=1+CA c vs.length ((aS.drop j).length+tl rest)+1:=by rw[List.length_cons];unfold CA;lia
  have eN:=(bX _ (qD ea)).2;rw[e1];exact⟨Zz rl hn hX eU hp HB eN hl ea fD (uG v qi) (by lia) hB,ZA rl hn hX eU hp HB eN hl ea fD (uG v qi) (by lia) hB⟩
 |nil=>
  have IH:KG (az p wo K n) L B pre (bz (aj ks ps) (ws.map (bI (Tree.node d))) ov) x c ws o ((aS.drop j).length+tl rest):=fun a' j' cg gz bf eu h1 h2 h3 h4 h5 _=>(ih _ (by rw[←hM,List.length_nil];lia) a' j' cg gz bf eu rfl h2 h3 h4 h5).1;rw[show CA c ([]:List Val).length ((aS.drop j).length+tl rest)=(18*((aS.drop j).length+tl rest)+(c+3))+1 by simp[CA];rfl,s9];exact⟨Xs rl hn hX eU hp hl bX hO ha hj IH,Xu rl hn hX eU hp hl bX hO ha hj IH⟩
end
section
variable{K:Frag}
theorem Xv{out main:Value}{aP:List V}{ov:V}{vs:List Val}{i:Int}(a j:Nat):pO (ah (bT p wo K n k (FF (.list pre [.loc 9]) (aC "value" (.lst (V.int i::vs.map Val.v))) ⟨aa,t,ln,md,out,main⟩ (cT "case" (bz .none aP ov) (.str "test") .none a j []))) false) ((2:Nat)≤500∧(vs.map Val.v).length+1+1≤500∧(vs.map Val.v).length+1+1≤500∧(vs.map Val.v).length+1≤400∧True) aP (a:Int):=⟨kr,kr⟩
theorem abh{vs:List Val}(h:vs.length≤10):(2:Nat)≤500∧(vs.map Val.v).length+1+1≤500∧(vs.map Val.v).length+1+1≤500∧(vs.map Val.v).length+1≤400∧True:=by simp;lia
theorem abi{aP:List V}{ov:V}{vs:List Val}{i:Int}{kb:Str}{pb:V}(a j:Nat):∀ts,iA (bE (ah (bT p wo K n k (FF (.list pre [.loc 9]) (aC "value" (.lst (V.int i::vs.map Val.v))) ⟨aa,t,ln,md,out,main⟩ (cT "case" (bz .none aP ov) (.str "test") .none a j []))) false) (c9 ts (kI (aj kb pb)))) ((2:Nat)≤500∧True) (FF (.list pre [.loc 9,.loc (14+1)]) .none ⟨aa,t+1,ln,md,out,main⟩ (cA "case" (bz .none aP ov) (.str "end") .none a j (vs.map Val.v)++[bx "seq" (kI (aj kb pb)) (.int 0) (.loc (14+2)),.inst 463 14,.list [] []])):=fun ts=>⟨kr,kr,kr,kr,kr⟩
theorem Xw{out main:Value}{aP:List V}{ov:V}{vs:List Val}{i:Int}(a j:Nat):pO (ah (bT p wo K n k (FF (.list pre [.loc 9]) (aC "value" (.lst (V.none::V.int i::vs.map Val.v))) ⟨aa,t,ln,md,out,main⟩ (cT "case" (bz .none aP ov) (.str "test") .none a j []))) false) ((2:Nat)≤500∧(vs.map Val.v).length+1+1+1≤500∧(vs.map Val.v).length+1+1+1≤500∧(vs.map Val.v).length+1+1≤400∧(vs.map Val.v).length+1+1≤500∧(vs.map Val.v).length+1≤400∧True) aP (a:Int):=⟨kr,kr⟩
theorem abj{vs:List Val}(h:vs.length≤10):(2:Nat)≤500∧(vs.map Val.v).length+1+1+1≤500∧(vs.map Val.v).length+1+1+1≤500∧(vs.map Val.v).length+1+1≤400∧(vs.map Val.v).length+1+1≤500∧(vs.map Val.v).length+1≤400∧True:=by simp;lia
theorem abk{aP:List V}{ov:V}{vs:List Val}{i:Int}{kb:Str}{pb:V}(a j:Nat):∀ts,iA (bE (ah (bT p wo K n k (FF (.list pre [.loc 9]) (aC "value" (.lst (V.none::V.int i::vs.map Val.v))) ⟨aa,t,ln,md,out,main⟩ (cT "case" (bz .none aP ov) (.str "test") .none a j []))) false) (c9 ts (kI (aj kb pb)))) ((2:Nat)≤500∧True) (FF (.list pre [.loc 9,.loc (14+1)]) .none ⟨aa,t+1,ln,md,out,main⟩ (cA "case" (bz .none aP ov) (.str "end") .none a j (vs.map Val.v)++[bx "seq" (kI (aj kb pb)) (.int 0) (.loc (14+2)),.inst 463 14,.list [] []])):=fun ts=>⟨kr,kr,kr,kr,kr⟩
theorem Xx{out main:Value}{aP:List V}{ov:V}{vs:List Val}{i:Int}(a j:Nat):pO (ah (bT p wo K n k (FF (.list pre [.loc 9]) (aC "value" (.lst (V.none::V.none::V.int i::vs.map Val.v))) ⟨aa,t,ln,md,out,main⟩ (cT "case" (bz .none aP ov) (.str "test") .none a j []))) false) ((2:Nat)≤500∧(vs.map Val.v).length+1+1+1+1≤500∧(vs.map Val.v).length+1+1+1+1≤500∧(vs.map Val.v).length+1+1+1≤400∧(vs.map Val.v).length+1+1+1≤500∧(vs.map Val.v).length+1+1≤400∧(vs.map Val.v).length+1+1≤500∧(vs.map Val.v).length+1≤400∧True) aP (a:Int):=⟨kr,kr⟩
theorem abl{vs:List Val}(h:vs.length≤10):(2:Nat)≤500∧(vs.map Val.v).length+1+1+1+1≤500∧(vs.map Val.v).length+1+1+1+1≤500∧(vs.map Val.v).length+1+1+1≤400∧(vs.map Val.v).length+1+1+1≤500∧(vs.map Val.v).length+1+1≤400∧(vs.map Val.v).length+1+1≤500∧(vs.map Val.v).length+1≤400∧True:=by simp;lia
theorem abm{aP:List V}{ov:V}{vs:List Val}{i:Int}{kb:Str}{pb:V}(a j:Nat):∀ts,iA (bE (ah (bT p wo K n k (FF (.list pre [.loc 9]) (aC "value" (.lst (V.none::V.none::V.int i::vs.map Val.v))) ⟨aa,t,ln,md,out,main⟩ (cT "case" (bz .none aP ov) (.str "test") .none a j []))) false) (c9 ts (kI (aj kb pb)))) ((2:Nat)≤500∧True) (FF (.list pre [.loc 9,.loc (14+1)]) .none ⟨aa,t+1,ln,md,out,main⟩ (cA "case" (bz .none aP ov) (.str "end") .none a j (vs.map Val.v)++[bx "seq" (kI (aj kb pb)) (.int 0) (.loc (14+2)),.inst 463 14,.list [] []])):=fun ts=>⟨kr,kr,kr,kr,kr⟩
end
section
variable{K:Frag}
theorem iD{α:Type}{rd:α→Rd}{o:Option α}{body:α}{rest:List (List aB×α)}{ts:List aB}{vs:List Val}:c7 rd none o body rest ts (.none::vs)=c7 rd none o body rest ts vs:=by
 rw[lX];rfl
theorem xr{α:Type}{rd:α→Rd}{o:Option α}{body:α}{rest:List (List aB×α)}{ts:List aB}{vs:List Val}{i:Int}:c7 rd none o body rest ts (.int i::vs)=rd body:=by
 rw[lX];rfl
theorem UX{o:Option (Tree d)}(rl:bL L k)(hn:0<n)(hX:∀b,aF L.env b→B.X b)(eU:2≤hg)(hp:pre.length+hg+2≤1000)
  (hl:ws.length≤3)(bX:gQ ws)(hO:iu (az p wo K n) L hg c d o ov){a j:Nat}{aS:List aB}{body:Tree d}{rest:List (List aB×Tree d)}(ha:ws.drop a=(aS,body)::rest)(hj:j≤aS.length)
  (IH:∀(a' j':Nat) (cg:List aB) (gz:Tree d) (bf:List (List aB×Tree d)) (eu:List Val),(cg.drop j').length+tl bf<(aS.drop j).length+tl rest→ws.drop a'=(cg,gz)::bf→j'≤cg.length→eu.length≤3→(∀v∈eu,v.ok)→(∀v∈eu,v.nb)→
   Runs (az p wo K n) L B pre (oA pre (bz .none (ws.map (bI (Tree.node d))) ov) .none a' j' eu) (c7 (Tree.rd d) none o gz bf (cg.drop j') eu) (CA c eu.length ((cg.drop j').length+tl bf))):
  Runs (az p wo K n) L B pre (oA pre (bz .none (ws.map (bI (Tree.node d))) ov) .none a j []) (fQ (Tree.rd d) none o body rest (aS.drop j)) (CA c 0 ((aS.drop j).length+tl rest)):=by
 have lw:(ws.map (bI (Tree.node d))).length+1≤500:=by rw[List.length_map];lia
 have cost:CA c 0 ((aS.drop j).length+tl rest)=(18*((aS.drop j).length+tl rest)+(c+3))+1:=by simp[CA];rfl
 rw[cost];intro N w ok h;obtain⟨aa,t,ln,md,out,main⟩:=w;have ot:t+(((18*((aS.drop j).length+tl rest)+(c+3))+1:Nat):Int)≤20000:=ok.t;refine cj rl hX (by show 8≤(FF _ _ _ _).length;rw[bU];exact dU) ?_;refine ck (t:=t) kr (nd (p:=cY) kr bq) kr (by lia) ?_;refine nE (sj:=none) (ay:=.none) (w1:=⟨aa,t+1,ln,md,out,main⟩) rl hX (Ku a j) (NZ a j) (Kv lw) hl bX ha hj IH (fun a' j' tt N' gu ok h=> ?_) (fun _ ts b ok h=> ?_) ok.fK fun u w' e=>h u w' e.tick
 ·exact nC (tr:=[10,11,13]) (d:=15) rl hn hX (by lia) gu ok rfl rfl (fun σ=>jf (xs:=[]) rfl rfl rfl rfl rfl rfl bY) rfl rfl rfl rfl h
 ·rcases hO with⟨rfl,rfl⟩|⟨to,ko,po,rfl,rfl,eo⟩
  ·exact bC (N4 a j ts b) trivial (nD (e:=14) rfl (ok.le (qf _) (qm _)) rfl rfl fun u w' e=>(h u w' (e.up (by exact iS))).le (by exact kT))
  ·exact bC (N5 a j ts b) dJ ((i0 (tr:=[10,11,13]) (d:=14) (xs:=[]) rl hX (by exact qG ‹_›) eo ok rfl rfl (fun σ=>jf (xs:=[]) rfl rfl rfl rfl rfl rfl bY) rfl rfl rfl h).le (by lia))
theorem UY{o:Option (Tree d)}(rl:bL L k)(hn:0<n)(hX:∀b,aF L.env b→B.X b)(eU:2≤hg)(hp:pre.length+hg+2≤1000)
  (hl:ws.length≤3)(bX:gQ ws)(hO:iu (az p wo K n) L hg c d o ov){a j:Nat}{aS:List aB}{body:Tree d}{rest:List (List aB×Tree d)}(ha:ws.drop a=(aS,body)::rest)(hj:j≤aS.length)
  (IH:∀(a' j':Nat) (cg:List aB) (gz:Tree d) (bf:List (List aB×Tree d)) (eu:List Val),(cg.drop j').length+tl bf<(aS.drop j).length+tl rest→ws.drop a'=(cg,gz)::bf→j'≤cg.length→eu.length≤3→(∀v∈eu,v.ok)→(∀v∈eu,v.nb)→
   Runs (az p wo K n) L B pre (oA pre (bz .none (ws.map (bI (Tree.node d))) ov) .none a' j' eu) (c7 (Tree.rd d) none o gz bf (cg.drop j') eu) (CA c eu.length ((cg.drop j').length+tl bf))):
  Runs (az p wo K n) L B pre (oA pre (bz .none (ws.map (bI (Tree.node d))) ov) .none a j [.none]) (fQ (Tree.rd d) none o body rest (aS.drop j)) (CA c 0 ((aS.drop j).length+tl rest)):=by
 have lw:(ws.map (bI (Tree.node d))).length+1≤500:=by rw[List.length_map];lia
 have cost:CA c 0 ((aS.drop j).length+tl rest)=(18*((aS.drop j).length+tl rest)+(c+3))+1:=by simp[CA];lia
 rw[cost];intro N w ok h;obtain⟨aa,t,ln,md,out,main⟩:=w;have ot:t+(((18*((aS.drop j).length+tl rest)+(c+3))+1:Nat):Int)≤20000:=ok.t;refine cj rl hX (by show 8≤(FF _ _ _ _).length;rw[bU];lia) ?_;refine ck (t:=t) kr (nd (p:=cY) kr bq) kr (by lia) ?_;refine nE (sj:=none) (ay:=.none) (w1:=⟨aa,t+1,ln,md,out,main⟩) rl hX (Kw a j) (N6 a j) (Kx lw) hl bX ha hj IH (fun a' j' tt N' gu ok h=> ?_) (fun _ ts b ok h=> ?_) ok.fK fun u w' e=>h u w' e.tick
 ·exact nC (tr:=[10,11,13]) (d:=15) rl hn hX (by lia) gu ok rfl rfl (fun σ=>jf (xs:=[]) rfl rfl rfl rfl rfl rfl bY) rfl rfl rfl rfl h
 ·rcases hO with⟨rfl,rfl⟩|⟨to,ko,po,rfl,rfl,eo⟩
  ·exact bC (N7 a j ts b) trivial (nD (e:=14) rfl (ok.le (qf _) (qm _)) rfl rfl fun u w' e=>(h u w' (e.up (by lia))).le (by lia))
  ·exact bC (N8 a j ts b) dJ ((i0 (tr:=[10,11,13]) (d:=14) (xs:=[]) rl hX (by lia) eo ok rfl rfl (fun σ=>jf (xs:=[]) rfl rfl rfl rfl rfl rfl bY) rfl rfl rfl h).le (by lia))
theorem UZ{o:Option (Tree d)}(rl:bL L k)(hn:0<n)(hX:∀b,aF L.env b→B.X b)(eU:2≤hg)(hp:pre.length+hg+2≤1000)
  (hl:ws.length≤3)(bX:gQ ws)(hO:iu (az p wo K n) L hg c d o ov){a j:Nat}{aS:List aB}{body:Tree d}{rest:List (List aB×Tree d)}(ha:ws.drop a=(aS,body)::rest)(hj:j≤aS.length)
  (IH:∀(a' j':Nat) (cg:List aB) (gz:Tree d) (bf:List (List aB×Tree d)) (eu:List Val),(cg.drop j').length+tl bf<(aS.drop j).length+tl rest→ws.drop a'=(cg,gz)::bf→j'≤cg.length→eu.length≤3→(∀v∈eu,v.ok)→(∀v∈eu,v.nb)→
   Runs (az p wo K n) L B pre (oA pre (bz .none (ws.map (bI (Tree.node d))) ov) .none a' j' eu) (c7 (Tree.rd d) none o gz bf (cg.drop j') eu) (CA c eu.length ((cg.drop j').length+tl bf))):
  Runs (az p wo K n) L B pre (oA pre (bz .none (ws.map (bI (Tree.node d))) ov) .none a j [.none,.none]) (fQ (Tree.rd d) none o body rest (aS.drop j)) (CA c 0 ((aS.drop j).length+tl rest)):=by
 have lw:(ws.map (bI (Tree.node d))).length+1≤500:=by rw[List.length_map];lia
 have cost:CA c 0 ((aS.drop j).length+tl rest)=(18*((aS.drop j).length+tl rest)+(c+3))+1:=by simp[CA];lia
 rw[cost];intro N w ok h;obtain⟨aa,t,ln,md,out,main⟩:=w;have ot:t+(((18*((aS.drop j).length+tl rest)+(c+3))+1:Nat):Int)≤20000:=ok.t;refine cj rl hX (by show 8≤(FF _ _ _ _).length;rw[bU];lia) ?_;refine ck (t:=t) kr (nd (p:=cY) kr bq) kr (by lia) ?_;refine nE (sj:=none) (ay:=.none) (w1:=⟨aa,t+1,ln,md,out,main⟩) rl hX (Ky a j) (N9 a j) (Kz lw) hl bX ha hj IH (fun a' j' tt N' gu ok h=> ?_) (fun _ ts b ok h=> ?_) ok.fK fun u w' e=>h u w' e.tick
 ·exact nC (tr:=[10,11,13]) (d:=15) rl hn hX (by lia) gu ok rfl rfl (fun σ=>jf (xs:=[]) rfl rfl rfl rfl rfl rfl bY) rfl rfl rfl rfl h
 ·rcases hO with⟨rfl,rfl⟩|⟨to,ko,po,rfl,rfl,eo⟩
  ·exact bC (Oa a j ts b) trivial (nD (e:=14) rfl (ok.le (qf _) (qm _)) rfl rfl fun u w' e=>(h u w' (e.up (by lia))).le (by lia))
  ·exact bC (Ob a j ts b) dJ ((i0 (tr:=[10,11,13]) (d:=14) (xs:=[]) rl hX (by lia) eo ok rfl rfl (fun σ=>jf (xs:=[]) rfl rfl rfl rfl rfl rfl bY) rfl rfl rfl h).le (by lia))
theorem U0{o:Option (Tree d)}(rl:bL L k)(hn:0<n)(hX:∀b,aF L.env b→B.X b)(eU:2≤hg)(hp:pre.length+hg+2≤1000)
  (hl:ws.length≤3)(bX:gQ ws)(hO:iu (az p wo K n) L hg c d o ov){a j:Nat}{aS:List aB}{body:Tree d}{rest:List (List aB×Tree d)}(ha:ws.drop a=(aS,body)::rest)(hj:j≤aS.length)
  (IH:∀(a' j':Nat) (cg:List aB) (gz:Tree d) (bf:List (List aB×Tree d)) (eu:List Val),(cg.drop j').length+tl bf<(aS.drop j).length+tl rest→ws.drop a'=(cg,gz)::bf→j'≤cg.length→eu.length≤3→(∀v∈eu,v.ok)→(∀v∈eu,v.nb)→
   Runs (az p wo K n) L B pre (oA pre (bz .none (ws.map (bI (Tree.node d))) ov) .none a' j' eu) (c7 (Tree.rd d) none o gz bf (cg.drop j') eu) (CA c eu.length ((cg.drop j').length+tl bf))):
  Runs (az p wo K n) L B pre (oA pre (bz .none (ws.map (bI (Tree.node d))) ov) .none a j [.none,.none,.none]) (fQ (Tree.rd d) none o body rest (aS.drop j)) (CA c 0 ((aS.drop j).length+tl rest)):=by
 have lw:(ws.map (bI (Tree.node d))).length+1≤500:=by rw[List.length_map];lia
 have cost:CA c 0 ((aS.drop j).length+tl rest)=(18*((aS.drop j).length+tl rest)+(c+3))+1:=by simp[CA];lia
 rw[cost];intro N w ok h;obtain⟨aa,t,ln,md,out,main⟩:=w;have ot:t+(((18*((aS.drop j).length+tl rest)+(c+3))+1:Nat):Int)≤20000:=ok.t;refine cj rl hX (by show 8≤(FF _ _ _ _).length;rw[bU];lia) ?_;refine ck (t:=t) kr (nd (p:=cY) kr bq) kr (by lia) ?_;refine nE (sj:=none) (ay:=.none) (w1:=⟨aa,t+1,ln,md,out,main⟩) rl hX (KA a j) (Oc a j) (KC lw) hl bX ha hj IH (fun a' j' tt N' gu ok h=> ?_) (fun _ ts b ok h=> ?_) ok.fK fun u w' e=>h u w' e.tick
 ·exact nC (tr:=[10,11,13]) (d:=15) rl hn hX (by lia) gu ok rfl rfl (fun σ=>jf (xs:=[]) rfl rfl rfl rfl rfl rfl bY) rfl rfl rfl rfl h
 ·rcases hO with⟨rfl,rfl⟩|⟨to,ko,po,rfl,rfl,eo⟩
  ·exact bC (Od a j ts b) trivial (nD (e:=14) rfl (ok.le (qf _) (qm _)) rfl rfl fun u w' e=>(h u w' (e.up (by lia))).le (by lia))
  ·exact bC (Oe a j ts b) dJ ((i0 (tr:=[10,11,13]) (d:=14) (xs:=[]) rl hX (by lia) eo ok rfl rfl (fun σ=>jf (xs:=[]) rfl rfl rfl rfl rfl rfl bY) rfl rfl rfl h).le (by lia))
theorem Xy{d hg c:Nat}{ws:List (List aB×Tree d)}(rl:bL L k)(hn:0<n)(hX:∀b,aF L.env b→B.X b)(eU:2≤hg)(hp:pre.length+hg+2≤1000)
  (hl:ws.length≤3)(bX:gQ ws)(HB:gK (az p wo K n) L hg c d){vs:List Val}{i:Int}(hv:vs.length≤3){a j:Nat}{aS:List aB}{body:Tree d}{rest:List (List aB×Tree d)}(ha:ws.drop a=(aS,body)::rest)(hj:j≤aS.length):
  Runs (az p wo K n) L B pre (oA pre (bz .none (ws.map (bI (Tree.node d))) ov) .none a j (.int i::vs)) (Tree.rd d body) (c+4):=by
 have ea:ws[a]? =some (aS,body):=by
  have:=congrArg (·[0]?) ha
  simpa using this
 obtain⟨kb,pb,en,eb⟩:=HB body (bX _ (qD ea)).2;intro N w ok h;obtain⟨aa,t,ln,md,out,main⟩:=w;have ot:t+((c+4:Nat):Int)≤20000:=ok.t;refine At.le (N:=(N+1+(c+2))+1) (by lia) ?_;refine cj rl hX (by show 8≤(FF _ _ _ _).length;rw[bU];lia) ?_;have ev:(ws.map (bI (Tree.node d)))[a]? =some (c9 (aS.map aB.node) (kI (aj kb pb))):=by rw[List.getElem?_map,ea,←en];rfl
 refine ck (t:=t) kr (nd (p:=cY) kr bq) kr (by lia) ?_;refine ie _ (a:Int) a _ (Xv a j).1 (nd (Xv a j).2 (abh (by lia))) rfl ev (by rw[List.length_map];lia) ?_;refine bC (abi a j _) dJ ?_;refine i0 (tr:=[10,11,13]) (d:=14) (kb:="seq") (R:=Tree.rd d body) rl hX (hb:=hg+1) (by assumption) (AY rl eb) (ok.le (by exact iS) (qf _)).fK rfl rfl (fun σ=>jf rfl rfl rfl rfl rfl rfl bY) rfl rfl rfl fun u w' e=>h u w' (e.tick.up (by lia))
theorem Xz{d hg c:Nat}{ws:List (List aB×Tree d)}(rl:bL L k)(hn:0<n)(hX:∀b,aF L.env b→B.X b)(eU:2≤hg)(hp:pre.length+hg+2≤1000)
  (hl:ws.length≤3)(bX:gQ ws)(HB:gK (az p wo K n) L hg c d){vs:List Val}{i:Int}(hv:vs.length≤3){a j:Nat}{aS:List aB}{body:Tree d}{rest:List (List aB×Tree d)}(ha:ws.drop a=(aS,body)::rest)(hj:j≤aS.length):
  Runs (az p wo K n) L B pre (oA pre (bz .none (ws.map (bI (Tree.node d))) ov) .none a j (.none::.int i::vs)) (Tree.rd d body) (c+4):=by
 have ea:ws[a]? =some (aS,body):=by
  have:=congrArg (·[0]?) ha
  simpa using this
 obtain⟨kb,pb,en,eb⟩:=HB body (bX _ (qD ea)).2;intro N w ok h;obtain⟨aa,t,ln,md,out,main⟩:=w;have ot:t+((c+4:Nat):Int)≤20000:=ok.t;refine At.le (N:=(N+1+(c+2))+1) (by lia) ?_;refine cj rl hX (by show 8≤(FF _ _ _ _).length;rw[bU];lia) ?_;have ev:(ws.map (bI (Tree.node d)))[a]? =some (c9 (aS.map aB.node) (kI (aj kb pb))):=by rw[List.getElem?_map,ea,←en];rfl
 refine ck (t:=t) kr (nd (p:=cY) kr bq) kr (by lia) ?_;refine ie _ (a:Int) a _ (Xw a j).1 (nd (Xw a j).2 (abj (by lia))) rfl ev (by rw[List.length_map];lia) ?_;refine bC (abk a j _) dJ ?_;refine i0 (tr:=[10,11,13]) (d:=14) (kb:="seq") (R:=Tree.rd d body) rl hX (hb:=hg+1) (by lia) (AY rl eb) (ok.le (by lia) (qf _)).fK rfl rfl (fun σ=>jf rfl rfl rfl rfl rfl rfl bY) rfl rfl rfl fun u w' e=>h u w' (e.tick.up (by lia))
theorem XA{d hg c:Nat}{ws:List (List aB×Tree d)}(rl:bL L k)(hn:0<n)(hX:∀b,aF L.env b→B.X b)(eU:2≤hg)(hp:pre.length+hg+2≤1000)
  (hl:ws.length≤3)(bX:gQ ws)(HB:gK (az p wo K n) L hg c d){vs:List Val}{i:Int}(hv:vs.length≤3){a j:Nat}{aS:List aB}{body:Tree d}{rest:List (List aB×Tree d)}(ha:ws.drop a=(aS,body)::rest)(hj:j≤aS.length):
  Runs (az p wo K n) L B pre (oA pre (bz .none (ws.map (bI (Tree.node d))) ov) .none a j (.none::.none::.int i::vs)) (Tree.rd d body) (c+4):=by
 have ea:ws[a]? =some (aS,body):=by
  have:=congrArg (·[0]?) ha
  simpa using this
 obtain⟨kb,pb,en,eb⟩:=HB body (bX _ (qD ea)).2;intro N w ok h;obtain⟨aa,t,ln,md,out,main⟩:=w;have ot:t+((c+4:Nat):Int)≤20000:=ok.t;refine At.le (N:=(N+1+(c+2))+1) (by lia) ?_;refine cj rl hX (by show 8≤(FF _ _ _ _).length;rw[bU];lia) ?_;have ev:(ws.map (bI (Tree.node d)))[a]? =some (c9 (aS.map aB.node) (kI (aj kb pb))):=by rw[List.getElem?_map,ea,←en];rfl
 refine ck (t:=t) kr (nd (p:=cY) kr bq) kr (by lia) ?_;refine ie _ (a:Int) a _ (Xx a j).1 (nd (Xx a j).2 (abl (by lia))) rfl ev (by rw[List.length_map];lia) ?_;refine bC (abm a j _) dJ ?_;refine i0 (tr:=[10,11,13]) (d:=14) (kb:="seq") (R:=Tree.rd d body) rl hX (hb:=hg+1) (by lia) (AY rl eb) (ok.le (by lia) (qf _)).fK rfl rfl (fun σ=>jf rfl rfl rfl rfl rfl rfl bY) rfl rfl rfl fun u w' e=>h u w' (e.tick.up (by lia))
theorem KH:CA c 0 left≤CA c i left:=by unfold CA;simp
theorem F8:c+4≤CA c i left:=by unfold CA;exact dU
theorem ZD{ov:V}{d hg c:Nat}{ws:List (List aB×Tree d)}{o:Option (Tree d)}(rl:bL L k)(hn:0<n)(hX:∀b,aF L.env b→B.X b)(eU:2≤hg)(hp:pre.length+hg+2≤1000)
  (hl:ws.length≤3)(bX:gQ ws)(HB:gK (az p wo K n) L hg c d)(hO:iu (az p wo K n) L hg c d o ov):
  ∀(M a j:Nat) (aS:List aB) (body:Tree d) (rest:List (List aB×Tree d)) (vs:List Val),(aS.drop j).length+tl rest=M→ws.drop a=(aS,body)::rest→j≤aS.length→vs.length≤3→(∀v∈vs,v.nb)→
   Runs (az p wo K n) L B pre (oA pre (bz .none (ws.map (bI (Tree.node d))) ov) .none a j vs) (c7 (Tree.rd d) none o body rest (aS.drop j) vs) (CA c vs.length ((aS.drop j).length+tl rest)):=by
 intro M;induction M using Nat.strongRecOn with
 |ind M ih=>
 intro a j aS body rest vs hM ha hj hv nb;have IH:=fun(a' j':Nat) (cg:List aB) (gz:Tree d) (bf:List (List aB×Tree d)) (eu:List Val) (h1:(cg.drop j').length+tl bf<(aS.drop j).length+tl rest) (h2:ws.drop a'=(cg,gz)::bf) (h3:j'≤cg.length) (h4:eu.length≤3) (h5:∀v∈eu,v.ok) (h6:∀v∈eu,v.nb)=>ih _ (by lia) a' j' cg gz bf eu rfl h2 h3 h4 h6
 match vs,hv,nb with
 |[],_,_=>exact UX rl hn hX eU hp hl bX hO ha hj IH
 |.int i::vs,hv,_=>rw[xr];exact(Xy rl hn hX eU hp hl bX HB (by simp only[List.length_cons]at hv;exact qL ‹_›) ha hj).le F8
 |.none::[],_,_=>rw[iD,s9];exact(UY rl hn hX eU hp hl bX hO ha hj IH).le KH
 |.none::.int i::vs,hv,_=>rw[iD,xr];exact(Xz rl hn hX eU hp hl bX HB (by simp only[List.length_cons]at hv;lia) ha hj).le F8
 |.none::.none::[],_,_=>rw[iD,iD,s9];exact(UZ rl hn hX eU hp hl bX hO ha hj IH).le KH
 |.none::.none::.int i::vs,hv,_=>rw[iD,iD,xr];exact(XA rl hn hX eU hp hl bX HB (by simp only[List.length_cons]at hv;lia) ha hj).le F8
 |.none::.none::.none::[],_,_=>rw[iD,iD,iD,s9];exact(U0 rl hn hX eU hp hl bX hO ha hj IH).le KH
 |.bool b::vs,_,nb=>exact(nb _ (qi)).elim
 |.none::.bool b::vs,_,nb=>exact(nb (.bool b) (by exact kL)).elim
 |.none::.none::.bool b::vs,_,nb=>exact(nb (.bool b) (by simp)).elim
 |.none::.none::.none::_::vs,hv,_=>simp at hv
end
theorem KI:∀{ws:List (List aB×Tree d)},gQ ws→tl ws≤2*ws.length
 |[],_=>qf _
 |w::ws,h=>by
  have:=KI (ws:=ws) fun x hx=>h x (qj _ hx);have h2:=(h w (qi)).1.1.2;simp only[tl,List.length_cons];lia
section
variable{K:Frag}
theorem U1(rl:bL L k)(hn:0<n)(hX:∀b,aF L.env b→B.X b)(eU:2≤hg)(hp:pre.length+hg+2≤1000)
  (HB:gK (az p wo K n) L hg c d)(hl:ws.length≤3)(bX:gQ ws)(hO:iu (az p wo K n) L hg c d o ov)(fD:x.ok):
  Runs (az p wo K n) L B pre (fun w=>FF (.list pre [.loc 9]) (aC "value" x.v) w (tT "case" (bz (aj ks ps) (ws.map (bI (Tree.node d))) ov) (.str "subject"))) (fc (Tree.rd d) (some x) o ws) (c+112):=by
 have lw:(ws.map (bI (Tree.node d))).length+1≤500:=by rw[List.length_map];lia
 have ltl:=KI bX;intro N w ok h;obtain⟨aa,t,ln,md,out,main⟩:=w;have ot:t+((c+112:Nat):Int)≤20000:=ok.t;refine At.le (N:=N+(c+111)+1) (by exact iS) ?_;refine cj rl hX (by show 8≤(FF _ _ _ _).length;rw[bU];exact dU) ?_;refine ck (t:=t) (by induction x using Val.casesOn<;>kernel_rfl) (nd (p:=cY) (by induction x using Val.casesOn<;>kernel_rfl) bq) (by induction x using Val.casesOn<;>kernel_rfl) (by lia) ?_
 induction ws using qh with
 |nil=>
  have h:∀u w',bJ (lR (Tree.rd d) (.val .none) o) (c+112) ⟨aa,t,ln,md,out,main⟩ u w'→At (az p wo K n) L 8 B (FF (.list pre []) u w' []) N:=h;have ok:aW (c+112) (lR (Tree.rd d) (.val .none) o).1.length ⟨aa,t,ln,md,out,main⟩:=ok;refine jV (c:=false) (Dg x) (A7 lw) (decide_eq_false (by show¬((0:Nat):Int)<((0:Nat):Int);decide)) ?_;refine jV (c:=true) (NN x) ⟨lw,trivial⟩ (decide_eq_true rfl) ?_;rcases hO with⟨rfl,rfl⟩|⟨to,ko,po,rfl,rfl,eo⟩
  ·exact(bC (NP x) trivial (nD (e:=14) (c:=c+111) rfl ((ok.le (by exact iS) (qm _)).fK) rfl rfl fun u w' e=>(h u w' (e.tick.up (by lia))))).mono fun q tq=>tq.le (by exact kT)
  ·exact(bC (NQ x) dJ (i0 (tr:=[11,12,13]) (d:=14) (xs:=[]) rl hX (by exact qG ‹_›) eo ((ok.le (c':=c+1+1) (by simp) (qf _)).fK) rfl rfl (fun σ=>sC rfl rfl rfl rfl rfl rfl bY) rfl rfl rfl fun u w' e=>h u w' (e.tick.up (by lia)))).mono fun q tq=>tq.le (by lia)
 |cons w0 rest=>
  obtain⟨aS,body⟩:=w0;have e0:(aS.drop 0).length+tl rest=tl ((aS,body)::rest):=rfl;have l0:=(bX _ (qi)).1.1.1;have Xi:((aS,body)::rest).length≤3:=hl;refine(nE (N:=N) (sv:=aj ks ps) (ov:=ov) (c:=c) (sj:=some x) (ay:=x) (o:=o) (w1:=⟨aa,t+1,ln,md,out,main⟩) (aS:=aS) (body:=body) (rest:=rest) rl hX (Kp x) (Dg x) (A7 lw) hl bX rfl (qm _) (fun a' j' cg gz bf eu h1 h2 h3 h4 h5 _=>((ZC rl hn hX eU hp HB hl bX hO fD _ a' j' cg gz bf eu rfl h2 h3 h4 h5).1)) (fun a' j' tt N' gu ok h=> ?_) (fun e=> ?_) ?_ ?_).mono fun q tq=>tq.le (by rw[e0];lia)
  ·exact nC (tr:=[11,12,13]) (d:=15) rl hn hX (by lia) gu ok rfl rfl (fun σ=>sC rfl rfl rfl rfl rfl rfl bY) rfl rfl rfl rfl h
  ·have e:aS=[]:=e;subst e;simp at l0
  ·rw[e0];exact(ok.le (c':=(18*tl ((aS,body)::rest)+(c+3))+1) (by lia) (qf _)).fK
  ·rw[e0];exact fun u w' e=>h u w' (e.tick.up (by lia))
theorem XC(rl:bL L k)(hn:0<n)(eU:2≤hg)(HB:gK (az p wo K n) L hg c d)(hl:ws.length≤3)(bX:gQ ws)(hO:iu (az p wo K n) L hg c d o ov)
  (iV:CX R.2)(hs:iP (az p wo K n) L hg c ks (aj ks ps) R):
  iP (az p wo K n) L (hg+2) (2*c+113) "case" (bz (aj ks ps) (ws.map (bI (Tree.node d))) ov) (dh R fun x=>fc (Tree.rd d) (some x) o ws):=by
 intro w ok B pre N hX hp h;obtain⟨m1,w1⟩:=R;have ot:=ok.t;have l1:m1.length≤(dh (m1,w1) fun x=>fc (Tree.rd d) (some x) o ws).1.length:=by
  induction w1 using bu.casesOn with
  |raise z=>exact qf _
  |val x=>simp[dh,Mine.Internal.after]
 refine At.le (N:=(N+(c+112)+c)+1) (by lia) ?_;refine fR [] [.ok ((2:Nat)≤500∧(2:Nat)≤500∧True) ((.next,cG),FF (.list pre [.loc 9,.loc (11+1)]) .none {w with t:=w.t+1} (tT "case" (bz (aj ks ps) (ws.map (bI (Tree.node d))) ov) (.str "subject")++[bx ks (aj ks ps) (.int 0) (.loc (11+2)),.inst 463 11,.list [] []]))] rl hX (by lia) (.ok ⟨by decide,dJ⟩ ?_) kr;refine gB (N:=N+(c+112)) (c:=c) (w:={w with t:=w.t+1}) (T:=tT "case" (bz (aj ks ps) (ws.map (bI (Tree.node d))) ov) (.str "subject")) (node2:=aj ks ps) (tr:=[10]) (zs:=[]) (d:=11) rl hs hX (by exact qG ‹_›) (aW.tick (ok.le (by lia) l1)) rfl rfl
  (fun σ _=>uK rfl rfl rfl rfl bY) rfl rfl rfl (fun σ _=>.closed rfl) (uJ rfl) rfl (fun bh w' en=> ?_)
 induction w1 using bu.casesOn with
 |raise z=>
  have cl:=en.cl ok.aa;obtain⟨e,ce,ze,rfl⟩:=en.way;exact At.le (N:=N+1) (by lia) (dI rl hX cl.1 cl.2 (h _ _ (en.gU.up (by lia))))
 |val x=>
  have fD:x.ok:=iV;have hw:bh=aC "value" x.v:=en.way;subst hw;have fS:aW (c+112) (fc (Tree.rd d) (some x) o ws).1.length w':=en.ok (c':=c+112) (aW.tick (ok.le (by lia) (by simp[dh,Mine.Internal.after])));exact U1 rl hn hX eU (by assumption) HB hl bX hO fD N w' fS fun u w2 cV=>h _ _ (en.gU.chain cV (by lia))
theorem XD(rl:bL L k)(hn:0<n)(eU:2≤hg)(HB:gK (az p wo K n) L hg c d)(hl:ws.length≤3)(bX:gQ ws)(hO:iu (az p wo K n) L hg c d o ov):
  iP (az p wo K n) L (hg+2) (2*c+113) "case" (bz .none (ws.map (bI (Tree.node d))) ov) (fc (Tree.rd d) none o ws):=by
 have lw:(ws.map (bI (Tree.node d))).length+1≤500:=by rw[List.length_map];lia
 have ltl:=KI bX;intro w ok B pre N hX hp h;obtain⟨aa,t,ln,md,out,main⟩:=w;have ot:t+((2*c+113:Nat):Int)≤20000:=ok.t;refine At.le (N:=N+(c+111)+1) (by lia) ?_;refine cj rl hX (by rw[bU];exact dU) ?_;refine ck (t:=t) kr (nd (p:=cY) kr bq) kr (by lia) ?_;induction ws using qh with
 |nil=>
  have h:∀u w',bJ (lR (Tree.rd d) (.val .none) o) (2*c+113) ⟨aa,t,ln,md,out,main⟩ u w'→At (az p wo K n) L 8 B (FF (.list pre []) u w' []) N:=h;have ok:aW (2*c+113) (lR (Tree.rd d) (.val .none) o).1.length ⟨aa,t,ln,md,out,main⟩:=ok;refine jV (c:=false) Dh (A8 lw) (decide_eq_false (by show¬((0:Nat):Int)<((0:Nat):Int);lia)) ?_;refine jV (c:=true) NR ⟨lw,trivial⟩ (decide_eq_true rfl) ?_;rcases hO with⟨rfl,rfl⟩|⟨to,ko,po,rfl,rfl,eo⟩
  ·exact(bC NS trivial (nD (e:=14) (c:=c+111) rfl ((ok.le (by lia) (qm _)).fK) rfl rfl fun u w' e=>(h u w' (e.tick.up (by lia))))).mono fun q tq=>tq.le (by lia)
  ·exact(bC NT dJ (i0 (tr:=[11,12,13]) (d:=14) (xs:=[]) rl hX (by lia) eo ((ok.le (c':=c+1+1) (by lia) (qf _)).fK) rfl rfl (fun σ=>sC rfl rfl rfl rfl rfl rfl bY) rfl rfl rfl fun u w' e=>h u w' (e.tick.up (by lia)))).mono fun q tq=>tq.le (by lia)
 |cons w0 rest=>
  obtain⟨aS,body⟩:=w0;have e0:(aS.drop 0).length+tl rest=tl ((aS,body)::rest):=rfl;have l0:=(bX _ (qi)).1.1.1;have Xi:((aS,body)::rest).length≤3:=hl;refine(nE (N:=N) (sv:=.none) (ov:=ov) (c:=c) (sj:=none) (ay:=.none) (o:=o) (w1:=⟨aa,t+1,ln,md,out,main⟩) (aS:=aS) (body:=body) (rest:=rest) rl hX Kq Dh (A8 lw) hl bX rfl (qm _) (fun a' j' cg gz bf eu h1 h2 h3 h4 h5 h6=>(ZD rl hn hX eU (by omega) hl bX HB hO _ a' j' cg gz bf eu rfl h2 h3 h4 h6)) (fun a' j' tt N' gu ok h=> ?_) (fun e=> ?_) ?_ ?_).mono fun q tq=>tq.le (by rw[e0];omega)
  ·exact nC (tr:=[11,12,13]) (d:=15) rl hn hX (by lia) gu ok rfl rfl (fun σ=>sC rfl rfl rfl rfl rfl rfl bY) rfl rfl rfl rfl h
  ·have e:aS=[]:=e;subst e;simp at l0
  ·rw[e0];exact(ok.le (c':=(18*tl ((aS,body)::rest)+(c+3))+1) (by lia) (qf _)).fK
  ·rw[e0];exact fun u w' e=>h u w' (e.tick.up (by lia))
end
noncomputable abbrev fX(sv:V)(arms:List V)(ov:V):V:=aj "casein" (.tup [sv,.lst arms,ov])
noncomputable abbrev jW(q g b:V):V:=.tup [q,g,b]
noncomputable def KJ(d:Nat)(kq:Str)(pq:V)(x:V):St:=[bx kq (aj kq pq) (.int 0) (.loc (d+4)),.inst 463 d,.list [] [],su x 0 (d+5) (d+6),.inst 708 (d+3),.list [] [],.dict []]
structure Bb (D:Nat) (r:aA cz) (x:Val) (p1:Prop) (mQ Df:St):Prop where
 a:BW r=some (345,[x.v])
 n:eZ r=p1
 d:BX r=D
 s:mq r=mQ
 o:iM (jS r (.str (eE x)) mQ)=true
 m:eZ (jS r (.str (eE x)) mQ)=DM
 e1:yW (jS r (.str (eE x)) mQ)=.next
 e2:tw (jS r (.str (eE x)) mQ)=cG
 e3:lY (jS r (.str (eE x)) mQ)=Df
theorem F9{p:Program}{wo:World}{K:Frag}{n D N:Nat}{L:Lp}{B:Bs}{r:aA cz}{x:Val}{p1:Prop}{mQ Df:St}(F:Bb D r x p1 mQ Df)(hD:8≤D)(hn:0<n)(ok:x.ok)(hp:p1)(q:fZ (az p wo K n) L B N Df):Gd (dR n) aI r (jx (az p wo K n) L B N):=
 FT x hn ok F.a (nd F.n hp) D F.d hD mQ F.s (bC ⟨F.o,F.m,F.e1,F.e2,F.e3⟩ F4 q)
section
variable{p:Program}{wo:World}{K:Frag}{n k:Nat}{pre:List Value}{aa:List V}{t ln:Int}{md:List (Str×V)}{out main:Value}{ks:Str}{ps:V}{as:List V}{ov:V}
noncomputable abbrev Of(p:Program)(wo:World)(K:Frag)(n k:Nat)(pre:List Value)(w:Ws)(ks:Str)(ps:V)(as:List V)(ov:V)(x:Val):aA cz:=ah (bT p wo K n k (FF (.list pre [.loc 9]) (aC "value" x.v) w (tT "casein" (fX (aj ks ps) as ov) (.str "subject")))) false
theorem XE(x:Val):kQ (Of p wo K n k pre ⟨aa,t,ln,md,out,main⟩ ks ps as ov x) ((2:Nat)≤500∧as.length+1≤500∧True) (decide ((0:Int)<Int.ofNat as.length)):=by induction x using Val.casesOn<;>exact⟨kr,kr,kr⟩
theorem XF(x:Val):pO (ah (Of p wo K n k pre ⟨aa,t,ln,md,out,main⟩ ks ps as ov x) true) True as 0:=by induction x using Val.casesOn<;>exact⟨kr,kr⟩
theorem XG(x:Val)(kq:Str)(pq g b:V):iA (bE (ah (Of p wo K n k pre ⟨aa,t,ln,md,out,main⟩ ks ps as ov x) true) (jW (aj kq pq) g b)) ((2:Nat)≤500∧True)
  (FF (.list pre [.loc 9,.loc (14+1)]) .none ⟨aa,t+1,ln,md,out,main⟩ (cM "casein" (fX (aj ks ps) as ov) (.str "matched") x 0 0++KJ 14 kq pq x.v)):=by induction x using Val.casesOn<;>exact⟨kr,kr,kr,kr,kr⟩
theorem XH(x:Val)(ko:Str)(po:V):iA (ah (Of p wo K n k pre ⟨aa,t,ln,md,out,main⟩ ks ps as (aj ko po) x) false) ((2:Nat)≤500∧True)
  (FF (.list pre [.loc 9,.loc (14+1)]) .none ⟨aa,t+1,ln,md,out,main⟩ (cM "casein" (fX (aj ks ps) as (aj ko po)) (.str "end") x 0 0++[bx ko (aj ko po) (.int 0) (.loc (14+2)),.inst 463 14,.list [] []])):=by induction x using Val.casesOn<;>exact⟨kr,kr,kr,kr,kr⟩
theorem XI(x:Val)(f:Bool)(q:Nat→Addr):Bb (k+37) (ah (Of p wo K n k pre ⟨aa,t,ln,n7 f q,out,main⟩ ks ps as .none x) false) x True
  (FF (.list pre [.loc 9]) .none ⟨aa,t+1,ln,n7 f q,out,main⟩ (cM "casein" (fX (aj ks ps) as .none) (.str "subject") x 0 0))
  (FF (.list pre []) (.loc 61) ⟨aa,t+1,ln+1+1+1+1+1+1+1,n7 f q++sD 14,out,main⟩ (cM "casein" (fX (aj ks ps) as .none) (.str "subject") x 0 0++yo 14 ln q (eE x))):=by
 induction f using qd<;>induction x using Val.casesOn<;>exact⟨kr,kr,kr,kr,kr,kr,kr,kr,kr⟩
noncomputable abbrev Dj(p:Program)(wo:World)(K:Frag)(n k:Nat)(pre:List Value)(w:Ws)(ks:Str)(ps:V)(as:List V)(ov:V)(x:Val)(a:Nat)(b:Bool):aA cz:=ah (bT p wo K n k (FF (.list pre [.loc 9]) (aC "value" (.bool b)) w (cT "casein" (fX (aj ks ps) as ov) (.str "matched") x a 0 []))) false
theorem uM(x:Val)(a:Nat)(b:Bool):pO (Dj p wo K n k pre ⟨aa,t,ln,md,out,main⟩ ks ps as ov x a b) ((2:Nat)≤500∧True) as (a:Int):=⟨kr,kr⟩
theorem QI(x:Val)(a:Nat)(q:V)(kb:Str)(pb:V):iA (bE (Dj p wo K n k pre ⟨aa,t,ln,md,out,main⟩ ks ps as ov x a true) (jW q .none (aj kb pb))) ((2:Nat)≤500∧True)
  (FF (.list pre [.loc 9,.loc (13+1)]) .none ⟨aa,t+1,ln,md,out,main⟩ (cT "casein" (fX (aj ks ps) as ov) (.str "end") x a 0 []++[bx kb (aj kb pb) (.int 0) (.loc (13+2)),.inst 463 13,.list [] []])):=⟨kr,kr,kr,kr,kr⟩
theorem Og(x:Val)(a:Nat)(q b:V)(gi:Int):iA (bE (Dj p wo K n k pre ⟨aa,t,ln,md,out,main⟩ ks ps as ov x a true) (jW q (je (some gi)) b)) ((2:Nat)≤500∧True)
  (FF (.list pre [.loc 9,.loc (13+1)]) .none ⟨aa,t+1,ln,md,out,main⟩ (cT "casein" (fX (aj ks ps) as ov) (.str "guard") x a 0 []++[bx "gvar" (je (some gi)) (.int 0) (.loc (13+2)),.inst 463 13,.list [] []])):=⟨kr,kr,kr,kr,kr⟩
theorem XJ(x:Val)(a:Nat)(q g b:V):kQ (bE (Dj p wo K n k pre ⟨aa,t,ln,md,out,main⟩ ks ps as ov x a false) (jW q g b)) (as.length+1≤500∧True) (decide ((a:Int)+1<Int.ofNat as.length)):=⟨kr,kr,kr⟩
theorem U3(x:Val)(a:Nat)(q g b:V):pO (ah (bE (Dj p wo K n k pre ⟨aa,t,ln,md,out,main⟩ ks ps as ov x a false) (jW q g b)) true) True as ((a:Int)+1):=⟨kr,kr⟩
theorem XK(x:Val)(a:Nat)(q g b:V)(kq:Str)(pq g2 b2:V):iA (bE (ah (bE (Dj p wo K n k pre ⟨aa,t,ln,md,out,main⟩ ks ps as ov x a false) (jW q g b)) true) (jW (aj kq pq) g2 b2)) ((2:Nat)≤500∧True)
  (FF (.list pre [.loc 9,.loc (13+1)]) .none ⟨aa,t+1,ln,md,out,main⟩ (cT "casein" (fX (aj ks ps) as ov) (.str "matched") x ((a:Int)+1) 0 []++KJ 13 kq pq x.v)):=by induction x using Val.casesOn<;>exact⟨kr,kr,kr,kr,kr⟩
theorem XM(x:Val)(a:Nat)(q g b:V)(ko:Str)(po:V):iA (ah (bE (Dj p wo K n k pre ⟨aa,t,ln,md,out,main⟩ ks ps as (aj ko po) x a false) (jW q g b)) false) ((2:Nat)≤500∧True)
  (FF (.list pre [.loc 9,.loc (13+1)]) .none ⟨aa,t+1,ln,md,out,main⟩ (cT "casein" (fX (aj ks ps) as (aj ko po)) (.str "end") x ((a:Int)+1) 0 []++[bx ko (aj ko po) (.int 0) (.loc (13+2)),.inst 463 13,.list [] []])):=⟨kr,kr,kr,kr,kr⟩
theorem XN(x:Val)(a:Nat)(v1 g b:V)(f:Bool)(q:Nat→Addr):Bb (k+36) (ah (bE (Dj p wo K n k pre ⟨aa,t,ln,n7 f q,out,main⟩ ks ps as .none x a false) (jW v1 g b)) false) x True
  (FF (.list pre [.loc 9]) .none ⟨aa,t+1,ln,n7 f q,out,main⟩ (cT "casein" (fX (aj ks ps) as .none) (.str "matched") x ((a:Int)+1) 0 []))
  (FF (.list pre []) (.loc 60) ⟨aa,t+1,ln+1+1+1+1+1+1+1,n7 f q++sD 13,out,main⟩ (cT "casein" (fX (aj ks ps) as .none) (.str "matched") x ((a:Int)+1) 0 []++yo 13 ln q (eE x))):=by
 induction f using qd<;>induction x using Val.casesOn<;>exact⟨kr,kr,kr,kr,kr,kr,kr,kr,kr⟩
noncomputable abbrev Ga(p:Program)(wo:World)(K:Frag)(n k:Nat)(pre:List Value)(w:Ws)(ks:Str)(ps:V)(as:List V)(ov:V)(x:Val)(a:Nat)(y:V):aA cz:=ah (bT p wo K n k (FF (.list pre [.loc 9]) (aC "value" y) w (cT "casein" (fX (aj ks ps) as ov) (.str "guard") x a 0 []))) false
theorem Oh(x y:Val)(hy:y.holds=true)(a:Nat):pO (Ga p wo K n k pre ⟨aa,t,ln,md,out,main⟩ ks ps as ov x a y.v) ((2:Nat)≤500∧True) as (a:Int):=by
 induction y using Val.casesOn with
 |none=>exact ft hy
 |int i=>exact⟨kr,kr⟩
 |bool b=>induction b using qd with
  |false=>exact ft hy
  |true=>exact⟨kr,kr⟩
theorem QJ(x y:Val)(hy:y.holds=true)(a:Nat)(q g:V)(kb:Str)(pb:V):iA (bE (Ga p wo K n k pre ⟨aa,t,ln,md,out,main⟩ ks ps as ov x a y.v) (jW q g (aj kb pb))) ((2:Nat)≤500∧True)
  (FF (.list pre [.loc 9,.loc (13+1)]) .none ⟨aa,t+1,ln,md,out,main⟩ (cT "casein" (fX (aj ks ps) as ov) (.str "end") x a 0 []++[bx kb (aj kb pb) (.int 0) (.loc (13+2)),.inst 463 13,.list [] []])):=by
 induction y using Val.casesOn with
 |none=>exact ft hy
 |int i=>exact⟨kr,kr,kr,kr,kr⟩
 |bool b=>induction b using qd with
  |false=>exact ft hy
  |true=>exact⟨kr,kr,kr,kr,kr⟩
theorem XO(x:Val)(z:Bool)(a:Nat):kQ (Ga p wo K n k pre ⟨aa,t,ln,md,out,main⟩ ks ps as ov x a (lJ z)) ((2:Nat)≤500∧as.length+1≤500∧True) (decide ((a:Int)+1<Int.ofNat as.length)):=by induction z using qd<;>exact⟨kr,kr,kr⟩
theorem U4(x:Val)(z:Bool)(a:Nat):pO (ah (Ga p wo K n k pre ⟨aa,t,ln,md,out,main⟩ ks ps as ov x a (lJ z)) true) True as ((a:Int)+1):=by induction z using qd<;>exact⟨kr,kr⟩
theorem XQ(x:Val)(z:Bool)(a:Nat)(kq:Str)(pq g2 b2:V):iA (bE (ah (Ga p wo K n k pre ⟨aa,t,ln,md,out,main⟩ ks ps as ov x a (lJ z)) true) (jW (aj kq pq) g2 b2)) ((2:Nat)≤500∧True)
  (FF (.list pre [.loc 9,.loc (13+1)]) .none ⟨aa,t+1,ln,md,out,main⟩ (cT "casein" (fX (aj ks ps) as ov) (.str "matched") x ((a:Int)+1) 0 []++KJ 13 kq pq x.v)):=by induction z using qd<;>induction x using Val.casesOn<;>exact⟨kr,kr,kr,kr,kr⟩
theorem XR(x:Val)(z:Bool)(a:Nat)(ko:Str)(po:V):iA (ah (Ga p wo K n k pre ⟨aa,t,ln,md,out,main⟩ ks ps as (aj ko po) x a (lJ z)) false) ((2:Nat)≤500∧True)
  (FF (.list pre [.loc 9,.loc (13+1)]) .none ⟨aa,t+1,ln,md,out,main⟩ (cT "casein" (fX (aj ks ps) as (aj ko po)) (.str "end") x ((a:Int)+1) 0 []++[bx ko (aj ko po) (.int 0) (.loc (13+2)),.inst 463 13,.list [] []])):=by induction z using qd<;>exact⟨kr,kr,kr,kr,kr⟩
def Gb(z f:Bool):Prop:=∀{p wo K n k pre aa t ln out main ks ps as} (x:Val) (a:Nat) (q:Nat→Addr),Bb (k+36) (ah (Ga p wo K n k pre ⟨aa,t,ln,n7 f q,out,main⟩ ks ps as .none x a (lJ z)) false) x True
  (FF (.list pre [.loc 9]) .none ⟨aa,t+1,ln,n7 f q,out,main⟩ (cT "casein" (fX (aj ks ps) as .none) (.str "guard") x ((a:Int)+1) 0 []))
  (FF (.list pre []) (.loc 60) ⟨aa,t+1,ln+1+1+1+1+1+1+1,n7 f q++sD 13,out,main⟩ (cT "casein" (fX (aj ks ps) as .none) (.str "guard") x ((a:Int)+1) 0 []++yo 13 ln q (eE x)))
theorem ZE:Gb true true:=fun{p wo K n k pre aa t ln out main ks ps as} x=>by induction x using Val.casesOn<;>exact fun _ _=>⟨kr,kr,kr,kr,kr,kr,kr,kr,kr⟩
theorem ZF:Gb true false:=fun{p wo K n k pre aa t ln out main ks ps as} x=>by induction x using Val.casesOn<;>exact fun _ _=>⟨kr,kr,kr,kr,kr,kr,kr,kr,kr⟩
theorem ZG:Gb false true:=fun{p wo K n k pre aa t ln out main ks ps as} x=>by induction x using Val.casesOn<;>exact fun _ _=>⟨kr,kr,kr,kr,kr,kr,kr,kr,kr⟩
theorem ZH:Gb false false:=fun{p wo K n k pre aa t ln out main ks ps as} x=>by induction x using Val.casesOn<;>exact fun _ _=>⟨kr,kr,kr,kr,kr,kr,kr,kr,kr⟩
theorem XS(z f:Bool):Gb z f:=z.casesOn (f.casesOn ZH ZG) (f.casesOn ZF ZE)
end
noncomputable def CM(c left:Nat):Nat:=22*left+(c+4)
section
variable{K:Frag}
theorem XT(rl:bL L k)(hX:∀b,aF L.env b→B.X b)(ok:aW 1 0 w)
  (h:∀u w',bJ ([],.val x) 1 w u w'→At (az p wo K n) L 8 B (FF (.list pre []) u w' []) N):At (az p wo K n) L 8 B (FF (.list pre [.loc 9]) (aC "value" x.v) w (cT "casein" (fX sv as ov) (.str "end") ay a j vs)) (N+1):=by
 have ot:=ok.t;refine fR [] [.ok cY ((.next,cG),FF (.list pre []) (.loc 14) {w with t:=w.t+1} (cT "casein" (fX sv as ov) (.str "end") ay a j vs++[dZ "value" x.v,.inst 441 13]))] rl hX (by assumption) (.ok bq ?_) (by induction x using Val.casesOn<;>kernel_rfl)
 exact fq (w:={w with t:=w.t+1}) (bh:=aC "value" x.v) (zs:=[14,13]) rfl (fun σ _=>eO (j:=14) (d:=13) (v:=x.v) (by exact ms) (by exact kL) rfl rfl (.closed (bO x))) ok.aa ok.md.closed (h _ _ (.one ok.md))
theorem QK(rl:bL L k)(hX:∀b,aF L.env b→B.X b)(ok:aW (cb+1) R.1.length w0)
  (h:∀u w',bJ R (cb+1) w0 u w'→At (az p wo K n) L 8 B (FF (.list pre []) u w' []) N):
  ∀bh w',bJ R cb w0 bh w'→At (az p wo K n) L 8 B (FF (.list pre [.loc 9]) bh w' (cT "casein" (fX sv as ov) (.str "end") ay a j vs)) (N+1):=by
 intro bh w' en;have cl:=en.cl ok.aa;obtain⟨m1,w1⟩:=R;induction w1 using bu.casesOn with
 |raise z=>
  obtain⟨e,ce,ze,rfl⟩:=en.way;exact dI rl hX cl.1 cl.2 (h _ _ (en.up kU))
 |val x=>
  have hw:bh=aC "value" x.v:=en.way;subst hw;have fS:aW 1 0 w':=en.ok (c':=1) (m:=0) ok;refine XT rl hX fS fun u w2 cV=>h _ _ ⟨cV.way, ?_, ?_,cV.md⟩
  ·rw[cV.aa,en.aa];exact List.append_nil _
  ·exact tE en.t cV.t (qf _)
theorem yp{pb:V}{R:Rd}{sv ov:V}{as:List V}{ay:Val}{a j:Int}{xs:List Val}(rl:bL L k)(hX:∀b,aF L.env b→B.X b)(hp:pre.length+hb+1≤1000)
  (ev:iP (az p wo K n) L hb cb kb (aj kb pb) R)(ok:aW (cb+1) R.1.length w)(hz:t9 ((8::9::tr)++[d,d+1,d+2]) []=true)(C8:tr.length=3)
  (hT:∀σ,uI (gD ((8::9::tr)++[d,d+1,d+2])) (· ∈[]) σ (FF (.list pre [.loc 9,.loc (d+1)]) .none w X) (8::9::tr) (cT "casein" (fX sv as ov) (.str "end") ay a j (xs.map Val.v)))
  (e0:(FF (.list pre [.loc 9,.loc (d+1)]) .none w X)[d]? =some (bx kb (aj kb pb) (.int 0) (.loc (d+2))))(e1:(FF (.list pre [.loc 9,.loc (d+1)]) .none w X)[d+1]? =some (.inst 463 d))(e2:(FF (.list pre [.loc 9,.loc (d+1)]) .none w X)[d+2]? =some (.list [] []))
  (h:∀u w',bJ R (cb+1) w u w'→At (az p wo K n) L 8 B (FF (.list pre []) u w' []) N):fZ (az p wo K n) L B (N+1+cb) (FF (.list pre [.loc 9,.loc (d+1)]) .none w X):=
 gB (N:=N+1) (c:=cb) (T:=cT "casein" (fX sv as ov) (.str "end") ay a j (xs.map Val.v)) (node2:=aj kb pb) (tr:=tr) (zs:=[]) (d:=d) rl ev hX hp (ok.le (by exact kU) (qf _)) rfl hz (fun σ _=>hT σ) e0 e1 e2 (fun σ _=>.closed rfl) (n5 rfl) (by rw[C8];rfl) (QK rl hX ok h)
theorem Io{arms rest:List (cK×Option Int×Tree d)}{x:Val}{r:aA cz}{p1:Prop}{sP:Str→V→St}(rl:bL L k)(hn:0<n)(fD:x.ok)(ha:arms.drop a'=rest)(hl:arms.length≤3)(bX:oO arms)
  (F:kQ r p1 (decide ((a':Int)<Int.ofNat (arms.map (dB (Tree.node d))).length)))(Di:p1)(P:pO (ah r true) True (arms.map (dB (Tree.node d))) (a':Int))
  (O:∀kq pq g b,iA (bE (ah r true) (jW (aj kq pq) g b)) ((2:Nat)≤500∧True) (sP kq pq))
  (T:∀q g b bf kq pq,rest=(q,g,b)::bf→xj (az p wo K n) L 2 19 kq (aj kq pq) x (d7 (q.fits x))→fZ (az p wo K n) L B N (sP kq pq))
  (E:rest=[]→Gd (dR n) aI (ah r false) (jx (az p wo K n) L B N)):Gd (dR n) aI r (jx (az p wo K n) L B N):=by
 have lw:(arms.map (dB (Tree.node d))).length=arms.length:=List.length_map ..;induction rest using qh with
 |nil=>
  have la:¬a'<arms.length:=fun h=>by
   have:=congrArg List.length ha;simp at this;lia
  exact jV (c:=false) F Di (decide_eq_false (by rw[lw];show¬(a':Int)<(arms.length:Int);lia)) (E rfl)
 |cons w bf=>
  obtain⟨q,g,b⟩:=w;have la:a'<arms.length:=by
   have:=congrArg List.length ha;simp at this;lia
  have ea:arms[a']? =some (q,g,b):=by
   have:=congrArg (·[0]?) ha
   simpa using this
  obtain⟨kq,pq,eq,ev⟩:=FZ (p:=p) (wo:=wo) (K:=K) rl hn q (bX _ (qD ea)).1;refine jV (c:=true) F Di (decide_eq_true (by rw[lw];show(a':Int)<(arms.length:Int);lia)) ?_;refine vA a' (jW (aj kq pq) (je g) (Tree.node d b)) P rfl (by rw[List.getElem?_map,ea,←eq];rfl) (by lia) ?_;exact bC (O _ _ _ _) dJ (T q g b bf kq pq rfl (ev x fD))
end
noncomputable def NC(c left:Nat):Nat:=22*left+(c+1)
section
variable{K:Frag}
def vB(cx:Cx)(L:Lp)(B:Bs)(pre:LV)(ks:Str)(ps ov:V)(c:Nat){d:Nat}(arms:List (cK×Option Int×Tree d))(o:Option (Tree d))(x:Val)(a:Nat)(q:cK)(g:Option Int)(b:Tree d)(rest:List (cK×Option Int×Tree d)):Prop:=
 ∀N w0,aW (19+CM c rest.length) (cI (Tree.rd d) x o ((q,g,b)::rest)).1.length w0→(∀u w',bJ (cI (Tree.rd d) x o ((q,g,b)::rest)) (19+CM c rest.length) w0 u w'→At cx L 8 B (FF (.list pre []) u w' []) N)→
  ∀u w',bJ (d7 (q.fits x)) 19 w0 u w'→At cx L 8 B (FF (.list pre [.loc 9]) u w' (cT "casein" (fX (aj ks ps) (arms.map (dB (Tree.node d))) ov) (.str "matched") x a 0 [])) (N+CM c rest.length)
theorem Ip{α:Type}{rd:α→Rd}{x:Val}{o:Option α}{q:cK}{g:Option Int}{b:α}{rest:List (cK×Option Int×α)}:(d7 (q.fits x)).1.length≤(cI rd x o ((q,g,b)::rest)).1.length:=by
 rw[cI.eq_2];unfold d7;induction q.fits x using qn with
 |mk m f=>induction f using ff.casesOn with
  |raise z=>exact qf _
  |val bb=>induction bb using qd with
   |false=>simp[Mine.Internal.after]
   |true=>induction g using qe with
    |none=>simp[Mine.Internal.after]
    |some i=>
     dsimp only;induction dM i using bu.casesOn with
     |raise z=>simp
     |val y=>
      dsimp only;by_cases hy:y.holds=true
      ·rw[if_pos hy];simp[Mine.Internal.after]
      ·rw[if_neg hy];simp[Mine.Internal.after]
theorem Ge{pre:LV}{ks:Str}{ps ov:V}{d hg c a':Nat}{arms rest:List (cK×Option Int×Tree d)}{o:Option (Tree d)}{x:Val}(rl:bL L k)(hn:0<n)(hX:∀b,aF L.env b→B.X b)(eU:2≤hg)(hp:pre.length+hg+1≤1000)(fD:x.ok)(hD:8≤D)
  (ha:arms.drop a'=rest)(hl:arms.length≤3)(bX:oO arms)(hO:iu (az p wo K n) L hg c d o ov)
  (F:kQ r p1 (decide ((a':Int)<Int.ofNat (arms.map (dB (Tree.node d))).length)))(Di:p1)(P:pO (ah r true) True (arms.map (dB (Tree.node d))) (a':Int))
  (O:∀kq pq g b,iA (bE (ah r true) (jW (aj kq pq) g b)) ((2:Nat)≤500∧True) (FF (.list pre [.loc 9,.loc (13+1)]) .none ⟨aa,t,ln,md,out,main⟩ (cT "casein" (fX (aj ks ps) (arms.map (dB (Tree.node d))) ov) (.str "matched") x (a':Int) 0 []++KJ 13 kq pq x.v)))
  (OS:∀ko po,ov=aj ko po→iA (ah r false) ((2:Nat)≤500∧True) (FF (.list pre [.loc 9,.loc (13+1)]) .none ⟨aa,t,ln,md,out,main⟩ (cT "casein" (fX (aj ks ps) (arms.map (dB (Tree.node d))) ov) (.str "end") x (a':Int) 0 []++[bx ko (aj ko po) (.int 0) (.loc (13+2)),.inst 463 13,.list [] []])))
  (NO:∀f q,ov=.none→md=n7 f q→∃mQ,Bb D (ah r false) x True mQ (FF (.list pre []) (.loc 60) ⟨aa,t,ln+1+1+1+1+1+1+1,n7 f q++sD 13,out,main⟩ (cT "casein" (fX (aj ks ps) (arms.map (dB (Tree.node d))) .none) S x (a':Int) 0 []++yo 13 ln q (eE x))))
  (IH:∀q g b bf,rest=(q,g,b)::bf→vB (az p wo K n) L B pre ks ps ov c arms o x a' q g b bf)
  (ok:aW (NC c rest.length) (cI (Tree.rd d) x o rest).1.length ⟨aa,t,ln,md,out,main⟩)(h:∀u w',bJ (cI (Tree.rd d) x o rest) (NC c rest.length) ⟨aa,t,ln,md,out,main⟩ u w'→At (az p wo K n) L 8 B (FF (.list pre []) u w' []) N):
  Gd (dR n) aI r (jx (az p wo K n) L B (N+NC c rest.length)):=by
 refine Io rl hn fD ha hl bX F Di P O (fun q g b bf kq pq e ev=> ?_) fun e=> ?_
 ·have cost:NC c rest.length=19+CM c bf.length:=by rw[e];unfold NC CM;simp only[List.length_cons];lia
  rw[cost]at ok h⊢;have go:=IH q g b bf e;rw[e]at ok h;refine(sy (N:=N+CM c bf.length) (c:=19) (T:=cT "casein" (fX (aj ks ps) (arms.map (dB (Tree.node d))) ov) (.str "matched") x (a':Int) 0 []) (tr:=[10,11,12]) (zs:=[]) (d:=13) rl ev hX (by lia) (ok.le (by exact kT) Ip) rfl rfl
   (fun σ _=>n6 (xs:=[]) rfl rfl rfl rfl rfl rfl bY) rfl rfl rfl rfl rfl rfl (n5 (xs:=[]) rfl) rfl (go N _ ok h)).le (by lia)
 ·subst e;have e1:cI (Tree.rd d) x o []=lR (Tree.rd d) (.raise (jF x)) o:=rfl;rw[e1]at ok h;have c0:NC c ([]:List (cK×Option Int×Tree d)).length=c+1:=by simp[NC]
  rw[c0]at ok h⊢;rcases hO with⟨rfl,rfl⟩|⟨to,ko,po,rfl,rfl,eo⟩
  ·obtain⟨f,q,em⟩:=nY.get ok.md;have em:md=n7 f q:=em;subst em;obtain⟨mQ,FD⟩:=NO f q rfl rfl;refine(F9 (N:=N) FD hD hn fD trivial (Ci (cT "casein" (fX (aj ks ps) (arms.map (dB (Tree.node d))) .none) S x (a':Int) 0 []) ok.aa (vz f q) fun e lZ ce er cd=>h _ _ ⟨⟨e,ce,er,rfl⟩, ?_, ?_,.inr ⟨cd,_,rfl⟩⟩)).mono fun q tq=>tq.le (by exact kT)
   ·show aa=aa++[];exact(List.append_nil _).symm
   ·show t≤t+((c+1:Nat):Int);omega
  ·exact(bC (OS ko po rfl) dJ (yp (tr:=[10,11,12]) (d:=13) (xs:=[]) rl hX (by assumption) eo ok rfl rfl (fun σ=>n6 (xs:=[]) rfl rfl rfl rfl rfl rfl bY) rfl rfl rfl h)).mono fun q tq=>tq.le (by lia)
end
section
variable{K:Frag}
noncomputable def vC(gi:Int)(b r:Rd):Rd:=match dM gi with
 |.raise z=>([Mark.guard gi],.raise z)
 |.val y=>if y.holds=true then Mine.Internal.after [Mark.guard gi] b else Mine.Internal.after [Mark.guard gi] r
theorem XU{α:Type}{rd:α→Rd}{x:Val}{o:Option α}{q:cK}{gi:Int}{b:α}{rest:List (cK×Option Int×α)}{m:List Mark}(h:q.fits x=(m,.val true)):cI rd x o ((q,some gi,b)::rest)=Mine.Internal.after m (vC gi (rd b) (cI rd x o rest)):=by
 rw[cI.eq_2,h];unfold vC;dsimp only;induction dM gi using bu.casesOn with
 |raise z=>rfl
 |val y=>
  dsimp only;by_cases hy:y.holds=true
  ·rw[if_pos hy,if_pos hy];exact congrArg (Prod.mk · _) (List.append_assoc ..)
  ·rw[if_neg hy,if_neg hy];exact congrArg (Prod.mk · _) (List.append_assoc ..)
section
variable{arms:List (cK×Option Int×Tree d)}{rest:List (cK×Option Int×Tree d)}{a:Nat}{q:cK}{body:Tree d}{kb:Str}{pb:V}{w1:Ws}{gi:Int}
theorem U5(rl:bL L k)(hn:0<n)(hX:∀b,aF L.env b→B.X b)(eU:2≤hg)(hp:pre.length+hg+1≤1000)(fD:x.ok)(hl:arms.length≤3)(bX:oO arms)(hO:iu (az p wo K n) L hg c d o ov)(la:a<arms.length)(ew:(arms.map (dB (Tree.node d)))[a]? =some xa)(eq:∃q g b,xa=jW q g b)(uL:arms.drop (a+1)=rest)
  (IH:∀q g b bf,rest=(q,g,b)::bf→vB (az p wo K n) L B pre ks ps ov c arms o x (a+1) q g b bf)(ok:aW (CM c rest.length) (cI (Tree.rd d) x o rest).1.length w1)
  (h:∀u w2,bJ (cI (Tree.rd d) x o rest) (CM c rest.length) w1 u w2→At (az p wo K n) L 8 B (FF (.list pre []) u w2 []) N):At (az p wo K n) L 8 B (FF (.list pre [.loc 9]) (aC "value" (.bool false)) w1 (cT "casein" (fX (aj ks ps) (arms.map (dB (Tree.node d))) ov) (.str "matched") x a 0 [])) (N+CM c rest.length):=by
 obtain⟨qq,gg,bb,rfl⟩:=eq;have lw:(arms.map (dB (Tree.node d))).length=arms.length:=List.length_map ..;have hNC:NC c rest.length+3=CM c rest.length:=by unfold NC CM;lia
 obtain⟨aa,t,ln,md,out,main⟩:=w1;have ot:t+((CM c rest.length:Nat):Int)≤20000:=ok.t;refine At.le (N:=(N+NC c rest.length)+1) (by lia) ?_;refine cj rl hX (by rw[bU];exact kT) ?_;refine ck (t:=t) kr (nd (p:=cY) kr bq) kr (by lia) ?_;refine ie _ (a:Int) a _ (uM x a false).1 (nd (uM x a false).2 dJ) rfl ew (by lia) ?_;exact Ge (D:=k+36) (S:=.str "matched") rl hn hX eU hp fD (by lia) uL hl bX hO (XJ x a _ _ _) ⟨by lia,trivial⟩ (U3 x a _ _ _) (fun kq pq g b=>XK x a _ _ _ kq pq g b) (fun ko po eo=>by subst eo;exact XM x a _ _ _ ko po) (fun f qq e1 e2=>by subst e1 e2;exact⟨_,XN x a _ _ _ f qq⟩) IH
  (ok.le (c':=NC c rest.length+1) (by lia) (qf _)).fK fun u w2 cV=>h _ _ (cV.tick.up (by lia))
theorem XW(rl:bL L k)(hX:∀b,aF L.env b→B.X b)(hp:pre.length+hg+1≤1000)(hl:arms.length≤3)(eb:iP (az p wo K n) L hg c kb (aj kb pb) (Tree.rd d body)){qv:V}(ew:(arms.map (dB (Tree.node d)))[a]? =some (jW qv .none (aj kb pb)))(hc:c+4≤CM c rest.length)(ok:aW (CM c rest.length) (Tree.rd d body).1.length w1)
  (h:∀u w2,bJ (Tree.rd d body) (CM c rest.length) w1 u w2→At (az p wo K n) L 8 B (FF (.list pre []) u w2 []) N):At (az p wo K n) L 8 B (FF (.list pre [.loc 9]) (aC "value" (.bool true)) w1 (cT "casein" (fX (aj ks ps) (arms.map (dB (Tree.node d))) ov) (.str "matched") x a 0 [])) (N+CM c rest.length):=by
 have lw:(arms.map (dB (Tree.node d))).length=arms.length:=List.length_map ..;obtain⟨aa,t,ln,md,out,main⟩:=w1;have ot:t+((CM c rest.length:Nat):Int)≤20000:=ok.t;refine At.le (N:=(N+1+c)+1) (by lia) ?_;refine cj rl hX (by rw[bU];exact kT) ?_;refine ck (t:=t) kr (nd (p:=cY) kr bq) kr (by lia) ?_;refine ie _ (a:Int) a _ (uM x a true).1 (nd (uM x a true).2 dJ) rfl ew (by lia) ?_;refine bC (QI x a _ kb pb) dJ ?_;exact yp (tr:=[10,11,12]) (d:=13) (xs:=[]) rl hX hp eb (ok.le (c':=c+1+1) (by lia) (qf _)).fK rfl rfl (fun σ=>n6 (xs:=[]) rfl rfl rfl rfl rfl rfl bY) rfl rfl rfl fun u w2 cV=>h _ _ (cV.tick.up (by lia))
theorem ZI(rl:bL L k)(hX:∀b,aF L.env b→B.X b)(hp:pre.length+hg+1≤1000)(hl:arms.length≤3)(eb:iP (az p wo K n) L hg c kb (aj kb pb) (Tree.rd d body))(ew:(arms.map (dB (Tree.node d)))[a]? =some (jW qv gv (aj kb pb))){y:Val}(hy:y.holds=true)(ok:aW (NC c rest.length+1) (Tree.rd d body).1.length w1)
  (h:∀u w2,bJ (Tree.rd d body) (NC c rest.length+1) w1 u w2→At (az p wo K n) L 8 B (FF (.list pre []) u w2 []) N):At (az p wo K n) L 8 B (FF (.list pre [.loc 9]) (aC "value" y.v) w1 (cT "casein" (fX (aj ks ps) (arms.map (dB (Tree.node d))) ov) (.str "guard") x a 0 [])) (N+(NC c rest.length+1)):=by
 have lw:(arms.map (dB (Tree.node d))).length=arms.length:=List.length_map ..;have vQ:c+1≤NC c rest.length:=by unfold NC;exact dU
 obtain⟨aa,t,ln,md,out,main⟩:=w1;have ot:t+((NC c rest.length+1:Nat):Int)≤20000:=ok.t;refine At.le (N:=(N+1+c)+1) (by lia) ?_;refine cj rl hX (by rw[bU];exact kT) ?_;refine ck (t:=t) kr (nd (p:=cY) kr bq) kr (by lia) ?_;refine ie _ (a:Int) a _ (Oh x y hy a).1 (nd (Oh x y hy a).2 dJ) rfl ew (by lia) ?_;refine bC (QJ x y hy a _ _ kb pb) dJ ?_;exact yp (tr:=[10,11,12]) (d:=13) (xs:=[]) rl hX hp eb (ok.le (c':=c+1+1) (by lia) (qf _)).fK rfl rfl (fun σ=>n6 (xs:=[]) rfl rfl rfl rfl rfl rfl bY) rfl rfl rfl fun u w3 vZ=>h _ _ (vZ.tick.up (by lia))
theorem ZJ(rl:bL L k)(hn:0<n)(hX:∀b,aF L.env b→B.X b)(eU:2≤hg)(hp:pre.length+hg+1≤1000)(fD:x.ok)(hl:arms.length≤3)(bX:oO arms)(hO:iu (az p wo K n) L hg c d o ov)(la:a<arms.length)(uL:arms.drop (a+1)=rest){y:Val}(hy:y.holds=false)
  (IH:∀q g b bf,rest=(q,g,b)::bf→vB (az p wo K n) L B pre ks ps ov c arms o x (a+1) q g b bf)(ok:aW (NC c rest.length+1) (cI (Tree.rd d) x o rest).1.length w1)
  (h:∀u w2,bJ (cI (Tree.rd d) x o rest) (NC c rest.length+1) w1 u w2→At (az p wo K n) L 8 B (FF (.list pre []) u w2 []) N):At (az p wo K n) L 8 B (FF (.list pre [.loc 9]) (aC "value" y.v) w1 (cT "casein" (fX (aj ks ps) (arms.map (dB (Tree.node d))) ov) (.str "guard") x a 0 [])) (N+(NC c rest.length+1)):=by
 have lw:(arms.map (dB (Tree.node d))).length=arms.length:=List.length_map ..;obtain⟨zf,ef⟩:=F5 hy;obtain⟨aa,t,ln,md,out,main⟩:=w1;have ot:t+((NC c rest.length+1:Nat):Int)≤20000:=ok.t;rw[ef];refine cj rl hX (by rw[bU];exact kT) ?_;refine ck (t:=t) (by induction zf using qd<;>kernel_rfl) (nd (p:=cY) (by induction zf using qd<;>kernel_rfl) bq) (by induction zf using qd<;>kernel_rfl) (by lia) ?_
 exact Ge (D:=k+36) (S:=.str "guard") rl hn hX eU hp fD (by lia) uL hl bX hO (XO x zf a) ⟨by decide,by lia,trivial⟩ (U4 x zf a) (fun kq pq g b=>XQ x zf a kq pq g b) (fun ko po eo=>by subst eo;exact XR x zf a ko po) (fun f qq e1 e2=>by subst e1 e2;exact⟨_,XS zf f x a qq⟩) IH
  ok.fK fun u w3 vZ=>h _ _ vZ.tick
theorem XX(rl:bL L k)(hn:0<n)(hX:∀b,aF L.env b→B.X b)(eU:2≤hg)(hp:pre.length+hg+1≤1000)(fD:x.ok)(hl:arms.length≤3)(bX:oO arms)(hO:iu (az p wo K n) L hg c d o ov)(la:a<arms.length)(uL:arms.drop (a+1)=rest)(Np:oN (some gi))
  (eb:iP (az p wo K n) L hg c kb (aj kb pb) (Tree.rd d body))(ew:(arms.map (dB (Tree.node d)))[a]? =some (jW qv (je (some gi)) (aj kb pb)))(IH:∀q g b bf,rest=(q,g,b)::bf→vB (az p wo K n) L B pre ks ps ov c arms o x (a+1) q g b bf)
  (ok:aW (CM c rest.length) (vC gi (Tree.rd d body) (cI (Tree.rd d) x o rest)).1.length w1)
  (h:∀u w2,bJ (vC gi (Tree.rd d body) (cI (Tree.rd d) x o rest)) (CM c rest.length) w1 u w2→At (az p wo K n) L 8 B (FF (.list pre []) u w2 []) N):At (az p wo K n) L 8 B (FF (.list pre [.loc 9]) (aC "value" (.bool true)) w1 (cT "casein" (fX (aj ks ps) (arms.map (dB (Tree.node d))) ov) (.str "matched") x a 0 [])) (N+CM c rest.length):=by
 have lw:(arms.map (dB (Tree.node d))).length=arms.length:=List.length_map ..;have hNC:NC c rest.length+3=CM c rest.length:=by unfold NC CM;lia
 have lg:1≤(vC gi (Tree.rd d body) (cI (Tree.rd d) x o rest)).1.length:=by
  unfold vC;induction dM gi using bu.casesOn with
  |raise z=>exact qf _
  |val y=>by_cases hy:y.holds=true<;>simp[hy,Mine.Internal.after]
 have ot:w1.t+((CM c rest.length:Nat):Int)≤20000:=ok.t;refine At.le (N:=(N+(NC c rest.length+1)+1)+1) (by lia) ?_;refine cj rl hX (by rw[bU];exact kT) ?_;refine ck (t:=w1.t) kr (nd (p:=cY) kr bq) kr (by lia) ?_;refine ie _ (a:Int) a _ (uM x a true).1 (nd (uM x a true).2 dJ) rfl ew (by lia) ?_;refine bC (Og x a _ _ gi) dJ ?_;refine gB (N:=N+(NC c rest.length+1)) (c:=1) (w:={w1 with t:=w1.t+1}) (T:=cT "casein" (fX (aj ks ps) (arms.map (dB (Tree.node d))) ov) (.str "guard") x a 0 []) (node:=je (some gi)) (node2:=je (some gi)) (tr:=[10,11,12]) (zs:=[]) (d:=13) rl (Qu rl hn Np) hX (by lia) (aW.tick (ok.le (c':=1+1) (by lia) lg)) (pU _) rfl
  (fun σ _=>n6 (xs:=[]) rfl rfl rfl rfl rfl rfl bY) rfl rfl rfl (fun σ _=>.closed (pU _)) (n5 (xs:=[]) rfl) rfl fun u2 w2 e2=> ?_
 have e3:=e2.gU;have xm:=e3.cl ok.aa;have pN:o9 (dM gi) u2:=e2.way;unfold vC at ok h;rcases hg:dM gi with y|z
 ·rw[hg]at pN ok h;rw[show u2=aC "value" y.v from pN]at e3⊢;dsimp only at ok h;by_cases hy:y.holds=true
  ·rw[if_pos hy]at ok h;exact ZI rl hX hp hl eb ew hy (e3.ok (c':=NC c rest.length+1) (by exact ok.le (by lia) (qA List.length_append.symm))) fun u w3 vZ=>h _ _ (e3.chain vZ (by lia))
  ·rw[if_neg hy]at ok h;exact ZJ rl hn hX eU hp fD hl bX hO la uL (by simpa using hy) IH (e3.ok (c':=NC c rest.length+1) (by exact ok.le (by lia) (qA List.length_append.symm))) fun u w3 vZ=>h _ _ (e3.chain vZ (by lia))
 ·rw[hg]at h pN;obtain⟨e,ce,ze,rfl⟩:=pN;exact At.le (N:=N+1) (by lia) (dI rl hX xm.1 xm.2 (h _ _ ⟨⟨e,ce,ze,rfl⟩,e3.aa,by have:=e3.t;lia,e3.md⟩))
theorem Oi(rl:bL L k)(hn:0<n)(hX:∀b,aF L.env b→B.X b)(eU:2≤hg)(hp:pre.length+hg+1≤1000)(fD:x.ok)
  (HB:gK (az p wo K n) L hg c d)(hl:arms.length≤3)(bX:oO arms)(hO:iu (az p wo K n) L hg c d o ov)(ha:arms.drop a=(q,g,body)::rest)
  (IH:∀q g b bf,rest=(q,g,b)::bf→vB (az p wo K n) L B pre ks ps ov c arms o x (a+1) q g b bf):vB (az p wo K n) L B pre ks ps ov c arms o x a q g body rest:=by
 have la:a<arms.length:=by
  have:=congrArg List.length ha;simp at this;lia
 have ea:arms[a]? =some (q,g,body):=by
  have:=congrArg (·[0]?) ha
  simpa using this
 have uL:arms.drop (a+1)=rest:=by rw[←List.drop_drop,ha];rfl
 obtain⟨HW,Np,eN⟩:=bX _ (qD ea);obtain⟨kb,pb,en,eb⟩:=HB body eN;have ew:(arms.map (dB (Tree.node d)))[a]? =some (jW q.node (je g) (aj kb pb)):=by rw[List.getElem?_map,ea,←en];rfl
 have hc:c+4≤CM c rest.length:=by unfold CM;exact dU
 intro N w0 ok h u w' e0;have hw:=e0.way;have cl:=e0.cl ok.aa;have hR:=cI.eq_2 (Tree.rd d) x o q g body rest;rcases hf:q.fits x with⟨m,bb|z⟩
 ·rw[hf]at e0 hw hR;rw[show u=aC "value" (.bool bb)from hw]at e0⊢;induction bb using qd with
  |false=>
   rw[hR]at ok h;exact U5 rl hn hX eU hp fD hl bX hO la ew ⟨_,_,_,rfl⟩ uL IH (e0.ok (v:=.bool false) (by simpa[d7,Mine.Internal.after]using ok)) fun u w2 e2=>h _ _ (e0.chain e2 (qf _))
  |true=>
   induction g using qe with
   |none=>
    rw[hR]at ok h;exact XW rl hX hp hl eb ew hc (e0.ok (v:=.bool true) (by simpa[d7,Mine.Internal.after]using ok)) fun u w2 e2=>h _ _ (e0.chain e2 (qf _))
   |some gi=>
    rw[XU hf]at ok h;exact XX rl hn hX eU hp fD hl bX hO la uL Np eb ew IH (e0.ok (v:=.bool true) (by simpa[d7,Mine.Internal.after]using ok)) fun u w2 e2=>h _ _ (e0.chain e2 (qf _))
 ·rw[hf]at e0 hw hR;rw[hR]at h;obtain⟨e,ce,ze,rfl⟩:=hw;exact At.le (N:=N+1) (by unfold CM;lia) (dI rl hX cl.1 cl.2 (h _ _ ⟨⟨e,ce,ze,rfl⟩,e0.aa,by have:=e0.t;lia,e0.md⟩))
end
theorem U6(rl:bL L k)(hn:0<n)(hX:∀b,aF L.env b→B.X b)(eU:2≤hg)(hp:pre.length+hg+1≤1000)(fD:x.ok)
  (HB:gK (az p wo K n) L hg c d)(hl:arms.length≤3)(bX:oO arms)(hO:iu (az p wo K n) L hg c d o ov):
  ∀(rest:List (cK×Option Int×Tree d)) (a:Nat) (q:cK) (g:Option Int) (body:Tree d),arms.drop a=(q,g,body)::rest→vB (az p wo K n) L B pre ks ps ov c arms o x a q g body rest:=by
 intro rest;induction rest with
 |nil=>exact fun a q g body ha=>Oi rl hn hX eU hp fD HB hl bX hO ha fun _ _ _ _ e=>nomatch e
 |cons w rest ih=>
  refine fun a q g body ha=>Oi rl hn hX eU hp fD HB hl bX hO ha fun q2 g2 b2 bf e=> ?_;cases e
  exact ih (a+1) q2 g2 b2 (by rw[←List.drop_drop,ha];rfl)
theorem QL(rl:bL L k)(hn:0<n)(hX:∀b,aF L.env b→B.X b)(eU:2≤hg)(hp:pre.length+hg+1≤1000)(fD:x.ok)
  (HB:gK (az p wo K n) L hg c d)(hl:arms.length≤3)(bX:oO arms)(hO:iu (az p wo K n) L hg c d o ov):
  Runs (az p wo K n) L B pre (fun w=>FF (.list pre [.loc 9]) (aC "value" x.v) w (tT "casein" (fX (aj ks ps) (arms.map (dB (Tree.node d))) ov) (.str "subject"))) (cI (Tree.rd d) x o arms) (c+112):=by
 have lw:(arms.map (dB (Tree.node d))).length=arms.length:=List.length_map ..;have nw:(arms.map (dB (Tree.node d))).length+1≤500:=by lia
 intro N w ok h;obtain⟨aa,t,ln,md,out,main⟩:=w;have ot:t+((c+112:Nat):Int)≤20000:=ok.t;refine At.le (N:=N+(c+111)+1) (by exact iS) ?_;refine cj rl hX (by show 8≤(FF _ _ _ _).length;rw[bU];exact dU) ?_;refine ck (t:=t) (by induction x using Val.casesOn<;>kernel_rfl) (nd (p:=cY) (by induction x using Val.casesOn<;>kernel_rfl) bq) (by induction x using Val.casesOn<;>kernel_rfl) (by lia) ?_
 refine Io (arms:=arms) (a':=0) (rest:=arms) rl hn fD rfl hl bX (XE x) ⟨by decide,nw,trivial⟩ (XF x) (fun kq pq g b=>XG x kq pq g b) (fun q g b bf kq pq e ev=> ?_) fun e=> ?_
 ·subst e;have lr:bf.length≤2:=by simp at hl;assumption
  have cm:19+CM c bf.length≤c+111:=by unfold CM;lia
  have sZ:aW (19+CM c bf.length) (cI (Tree.rd d) x o ((q,g,b)::bf)).1.length ⟨aa,t+1,ln,md,out,main⟩:=(ok.le (c':=19+CM c bf.length+1) (by exact Nat.lt_succ_of_le ‹_›) (qf _)).fK;refine(sy (N:=N+CM c bf.length) (c:=19) (w:=⟨aa,t+1,ln,md,out,main⟩) (T:=cT "casein" (fX (aj ks ps) (((q,g,b)::bf).map (dB (Tree.node d))) ov) (.str "matched") x 0 0 []) (tr:=[11,12,13]) (zs:=[]) (d:=14) rl ev hX (by lia) (sZ.le (by exact kT) Ip) rfl rfl
   (fun σ _=>sC rfl rfl rfl rfl rfl rfl bY) rfl rfl rfl rfl rfl rfl (n5 (xs:=[]) rfl) rfl (U6 rl hn hX eU hp fD HB hl bX hO bf 0 q g b rfl N _ sZ fun u w' e=>h u w' (e.tick.up (by lia)))).le (by lia)
 ·subst e;have h:∀u w',bJ (lR (Tree.rd d) (.raise (jF x)) o) (c+112) ⟨aa,t,ln,md,out,main⟩ u w'→At (az p wo K n) L 8 B (FF (.list pre []) u w' []) N:=h;have ok:aW (c+112) (lR (Tree.rd d) (.raise (jF x)) o).1.length ⟨aa,t,ln,md,out,main⟩:=ok;rcases hO with⟨rfl,rfl⟩|⟨to,ko,po,rfl,rfl,eo⟩
  ·obtain⟨f,q,em⟩:=nY.get ok.md;have em:md=n7 f q:=em;subst em;refine(F9 (N:=N) (XI x f q) (by exact dU) hn fD trivial (Ci (cM "casein" (fX (aj ks ps) (([]:List (cK×Option Int×Tree d)).map (dB (Tree.node d))) .none) (.str "subject") x 0 0) ok.aa (vz f q) fun e lZ ce er cd=>h _ _ ⟨⟨e,ce,er,rfl⟩, ?_, ?_,.inr ⟨cd,_,rfl⟩⟩)).mono fun q tq=>tq.le (by exact kT)
   ·show aa=aa++[];exact(List.append_nil _).symm
   ·show t+1≤t+((c+112:Nat):Int);lia
  ·exact(bC (XH x ko po) dJ (yp (tr:=[11,12,13]) (d:=14) (xs:=[]) rl hX hp eo ((ok.le (c':=c+1+1) (by simp) (qf _)).fK) rfl rfl (fun σ=>sC rfl rfl rfl rfl rfl rfl bY) rfl rfl rfl fun u w' e=>h u w' (e.tick.up (by lia)))).mono fun q tq=>tq.le (by lia)
theorem QM(rl:bL L k)(hn:0<n)(eU:2≤hg)(HB:gK (az p wo K n) L hg c d)(hl:arms.length≤3)(bX:oO arms)(hO:iu (az p wo K n) L hg c d o ov)
  (iV:CX R.2)(hs:iP (az p wo K n) L hg c ks (aj ks ps) R):
  iP (az p wo K n) L (hg+2) (2*c+113) "casein" (fX (aj ks ps) (arms.map (dB (Tree.node d))) ov) (dh R fun x=>cI (Tree.rd d) x o arms):=by
 intro w ok B pre N hX hp h;obtain⟨m1,w1⟩:=R;have ot:=ok.t;have l1:m1.length≤(dh (m1,w1) fun x=>cI (Tree.rd d) x o arms).1.length:=by
  induction w1 using bu.casesOn with
  |raise z=>exact qf _
  |val x=>simp[dh,Mine.Internal.after]
 refine At.le (N:=(N+(c+112)+c)+1) (by lia) ?_;refine fR [] [.ok ((2:Nat)≤500∧(2:Nat)≤500∧True) ((.next,cG),FF (.list pre [.loc 9,.loc (11+1)]) .none {w with t:=w.t+1} (tT "casein" (fX (aj ks ps) (arms.map (dB (Tree.node d))) ov) (.str "subject")++[bx ks (aj ks ps) (.int 0) (.loc (11+2)),.inst 463 11,.list [] []]))] rl hX (by lia) (.ok ⟨by decide,dJ⟩ ?_) kr;refine gB (N:=N+(c+112)) (c:=c) (w:={w with t:=w.t+1}) (T:=tT "casein" (fX (aj ks ps) (arms.map (dB (Tree.node d))) ov) (.str "subject")) (node2:=aj ks ps) (tr:=[10]) (zs:=[]) (d:=11) rl hs hX (by exact qG ‹_›) (aW.tick (ok.le (by lia) l1)) rfl rfl
  (fun σ _=>uK rfl rfl rfl rfl bY) rfl rfl rfl (fun σ _=>.closed rfl) (uJ rfl) rfl (fun bh w' en=> ?_)
 induction w1 using bu.casesOn with
 |raise z=>
  have cl:=en.cl ok.aa;obtain⟨e,ce,ze,rfl⟩:=en.way;exact At.le (N:=N+1) (by lia) (dI rl hX cl.1 cl.2 (h _ _ (en.gU.up (by lia))))
 |val x=>
  have fD:x.ok:=iV;have hw:bh=aC "value" x.v:=en.way;subst hw;have fS:aW (c+112) (cI (Tree.rd d) x o arms).1.length w':=en.ok (c':=c+112) (aW.tick (ok.le (by lia) (by simp[dh,Mine.Internal.after])));exact QL rl hn hX eU (by lia) fD HB hl bX hO N w' fS fun u w2 cV=>h _ _ (en.gU.chain cV (by lia))
end
noncomputable def cB:Nat→Nat
 |0=>1
 |d+1=>2*cB d+113
theorem iP.le(ev:iP cx L hg n kind node r)(h1:hg≤Xl)(h2:n≤n'):iP cx L Xl n' kind node r:=fun w ok B pre N hX hp h=>
 At.le (N:=N+n) (by exact qu ‹_› _) (ev w (ok.le h2 (qf _)) B pre N hX (by lia) fun u w' en=>h u w' (en.up h2))
section
variable{p:Program}{wo:World}{K:Frag}
theorem Gf(HB:gK (az p wo K n) L hg c d)(h:oX (Tree.ok d) o):iu (az p wo K n) L hg c d o (m7 (Tree.node d) o):=by
 induction o using qe with
 |none=>exact .inl ⟨rfl,rfl⟩
 |some t=>
  obtain⟨kb,pb,e,ev⟩:=HB t h;exact .inr ⟨t,kb,pb,rfl,e,ev⟩
theorem XY(rl:bL L k)(hn:0<n)(d:Nat):gK (az p wo K n) L (2+2*d) (cB d) d:=by
 induction d with
 |zero=>
  intro t ok;have ev:=vt (p:=p) (wo:=wo) (K:=K) rl hn t ok;have hk:Tree.node 0 t=aH.node t:=rfl;obtain⟨kb,pb,e,ev⟩:=Cf (p:=p) (wo:=wo) (K:=K) rl hn t ok;exact⟨kb,pb,e,ev.le (by exact dU) (qf _)⟩
 |succ d HB=>
  intro(t:Tr (Tree d)) ok;have hc:1≤cB d:=by induction d using qk<;>simp[cB]
  have hb:cB (d+1)=2*cB d+113:=rfl;have h2:2+2*(d+1)=(2+2*d)+2:=by exact(Nat.add_assoc _ _ _).symm
  rw[hb,h2];induction t using Tr.casesOn with
  |leaf l=>
   obtain⟨kb,pb,e,ev⟩:=Cf (p:=p) (wo:=wo) (K:=K) rl hn l ok;exact⟨kb,pb,e,ev.le (by exact nz) (by exact rF)⟩
  |jT s ws o=>
   induction s using qe with
   |none=>exact⟨"case",_,rfl,XD rl hn (by exact kT) HB ok.2.1.1 ok.2.1.2 (Gf HB ok.2.2)⟩
   |some s=>
   obtain⟨ks,ps,e,es⟩:=HB s ok.1;have key:=XC rl hn (by lia) HB ok.2.1.1 ok.2.1.2 (Gf HB ok.2.2) (mJ ok.1).w.w es;exact⟨"case",_,by show aj "case" (.tup [Tree.node d s,_,_])=_;rw[e],key⟩
  |jD s as o=>
   obtain⟨ks,ps,e,es⟩:=HB s ok.1;have key:=QM rl hn (by lia) HB ok.2.1.1 ok.2.1.2 (Gf HB ok.2.2) (mJ ok.1).w.w es;exact⟨"casein",_,by show aj "casein" (.tup [Tree.node d s,_,_])=_;rw[e],key⟩
  |j9 s q=>
   obtain⟨ks,ps,e,es⟩:=HB s ok.1;obtain⟨kq,pq,eq,XZ⟩:=FZ (p:=p) (wo:=wo) (K:=K) rl hn q ok.2;have key:=Kl (q:=q) rl (by lia) (mJ ok.1).w.w es XZ;exact⟨"matchp",_,by show aj "matchp" (.tup [Tree.node d s,q.node])=_;rw[e,eq],key.le (by exact kU) (by lia)⟩
  |jE s q=>
   obtain⟨ks,ps,e,es⟩:=HB s ok.1;obtain⟨kq,pq,eq,XZ⟩:=FZ (p:=p) (wo:=wo) (K:=K) rl hn q ok.2;have key:=Ko (q:=q) rl hn (by lia) (mJ ok.1).w.w es XZ;exact⟨"matchq",_,by show aj "matchq" (.tup [Tree.node d s,q.node])=_;rw[e,eq],key.le (by lia) (by lia)⟩
end
theorem Oj{st:St}{b:Bool}{x:Str}{w:V}{m:ai}:∀{m':ai},mL c aD z σ st b m m'→lk x m'=some w→∃v,lk x m=some v∧Fw c aD z σ st b v w:=by
 induction m with
 |nil=>intro m' h e;cases h;exact nn e
 |cons p m ih=>
  intro m' h e;cases h with
  |cons h r=>
   refine jj e (fun q e=>⟨_,rJ q,qc e▸h⟩) fun q e=> ?_;obtain⟨v',e',h'⟩:=ih r e;exact⟨v',Eq.trans (nh (by exact q)) e',h'⟩
theorem av.vD{σ:Nat→Addr}{st:St}{c:Nat}{aD:List Nat}{z:Nat→Prop}{h:Heap}(l:av P fe m env I σ st.length h)(r:cF P I σ st h)(hm:mL c aD z σ st false m m')(hf:fe.free=[])
  (fx:∀k,k<c→aD[k]? =some k)(lt:∀(j k:Nat),aD[j]? =some k→k<st.length):av P fe m' env (c8 I σ z st.length h) (dY aD σ) aD.length h:=by
 have up:∀{v w:V} {y:Value},Fw c aD z σ st false v w→aq I P σ st.length v y→aq (c8 I σ z st.length h) P (dY aD σ) aD.length w y:=fun f q=>FO (m:=false) r fx f q;refine⟨l.scope,l.kind,l.glob,l.blt, ?_,fun x v e hk=> ?_,l.there,fun x v e=> ?_,fun b hb=>⟨?_,fun j hj=> ?_⟩,l.ne,l.inj⟩
 ·obtain⟨mm,h1,h2⟩:=l.ns;refine⟨mm,h1,fun x v e hk=> ?_⟩;obtain⟨v0,e0,f⟩:=Oj hm e;obtain⟨y,e1,r⟩:=h2 x v0 e0 hk;exact⟨y,e1,up f r⟩
 ·obtain⟨v0,e0,f⟩:=Oj hm e;obtain⟨d,y,h1,h2,r⟩:=l.cell x v0 e0 hk;exact⟨d,y,h1,h2,up f r⟩
 ·rw[hf]at e;exact nn e
 ·obtain⟨h1,h2⟩:=l.apart b hb;induction q:c8 I σ z st.length h b using qe with
  |none=>rfl
  |some o=>
   rcases gS q with q|⟨_,_,k,_,hk,e⟩
   ·rw[h1]at q;exact nn q
   ·exact absurd e (h2 k hk)
 ·have ej:aD[j]? =some aD[j]:=qw hj;rw[eG ej];exact(l.apart b hb).2 _ (lt j _ ej)
set_option genInjectivity false in
structure LW where
 k:Nat
 A:Around
 fe:FE
 env:Env
 Q:Flow→SP
 E:dS
 T:Addr
noncomputable def bN(p:Program)(w:World)(K:Frag):Cx:=kP p w (fun _ _ _ _ _=>False) aI [] K
theorem iJ.cx{p:Program}{w:World}{K:Frag}(b:iJ (kP p w S pre as K) I):iJ (kP p w S' J0 SN K) I:=⟨b.glob,b.lim,b.fns,b.K,b.tabs,b.tS⟩
theorem au.cx{w:World}{K:Frag}{S S':Spec}{pre J0:Nat→Addr→List V→St→Prop}{as SN:List Addr}{k:Nat}{A:Around}{I:IM}{σ:Nat→Addr}{st:St}{s:Shared}(b:au (kP p w S pre as K) k A I σ st s):au (kP p w S' J0 SN K) k A I σ st s:=⟨b.fit,b.base.cx,b.rel⟩
structure m9 (L:LW) (f:Bool) (I:IM) (σ:Nat→Addr) (n:Nat) (s:Shared):Prop where
 i:I L.T=none
 sg:∀j,j<n→σ j≠L.T
 o:¬aF L.env L.T
 t:∃ps,s.heap.get? L.T=some (tabObj ps)∧(f=true→ps= #[])
theorem m9.go(t:m9 L f I σ n s)(x:aM P X I σ n s.heap I' af st' s'.heap)(hX:¬X L.T):m9 L f I' af st'.length s':=by
 obtain⟨ps,e,hp⟩:=t.t;refine⟨?_,fun j hj=> ?_,t.o,ps,x.keep _ _ e hX t.sg,hp⟩
 ·induction q:I' L.T using qe with
  |none=>rfl
  |some o=>
   rcases x.fresh _ o q with q|q
   ·rw[t.i]at q;exact nn q
   ·rw[e]at q;exact ns q
 ·by_cases h:j<n
  ·rw[x.le.s j h];exact t.sg j h
  ·intro z;have:=x.new j (qC h) hj;rw[z,e]at this;exact ns this
theorem m9.choose{L:LW}{f:Bool}{I:IM}{σ:Nat→Addr}{st:St}(t:m9 L f I σ st.length s)(fw:nV c aD z σ st st'):m9 L f (c8 I σ z st.length s.heap) (dY aD σ) st'.length s:=by
 refine⟨?_,fun j hj=> ?_,t.o,t.t⟩
 ·induction q:c8 I σ z st.length s.heap L.T using qe with
  |none=>rfl
  |some o=>
   rcases gS q with q|⟨_,_,k,_,hk,e⟩
   ·rw[t.i]at q;exact nn q
   ·exact absurd e (t.sg k hk)
 ·have LQ:j<aD.length:=by rw[←fw.len];exact hj
  have ej:aD[j]? =some aD[j]:=qw LQ;rw[eG ej];exact t.sg _ (fw.lt j _ ej).1
structure g7 (p:Program) (w:World) (K:Frag) (L:LW) (B:Bs) (f:Bool) (st:St) (m:ai) (rest:List Stmt):Prop where
 out:∀I σ s,fJ 0 B I σ st.length s→au (bN p w K) L.k L.A I σ st s→av w.params L.fe m L.env I σ st.length s.heap→m9 L f I σ st.length s→wpAny (model p w) L.A (execs rest L.env) L.Q L.E s
theorem Iq{w:World}{K:Frag}{S:Spec}{as:List Addr}{ev:Ev}{L:LW}{B:Bs}{f:Bool}{st:St}{m:ai}{x:Stmt}{rest:List Stmt}(Sd:aU (kP p w S aI as K) ev)(hX:∀b,aF L.env b→B.X b)(hf:L.fe.free=[])
  (g:Gd S aI (iB (kP p w S aI as K) ev L.k L.fe m st x) fun q=>q.1.1=.next∧∀σ,(∀k,k<q.2.length→σ k≠sysModules)→∃aD z st' m',nV 0 aD z σ q.2 st'∧mL 0 aD z σ q.2 false q.1.2 m'∧g7 p w K L B f st' m' rest):
  g7 p w K L B f st m (x::rest):=by
 refine⟨fun I σ s W H l ti=> ?_⟩;have H':au (kP p w S aI as K) L.k L.A I σ st s:=H.cx;refine wpAny_execs_cons (m5 Sd H' l (Good.mono (fun q gq dj bH f br bQ cJ ro=> ?_) g.out));obtain⟨⟨out,m₂⟩,bW⟩:=q;obtain⟨ro,dX⟩:=ro;obtain⟨e1,gq⟩:=gq;cases e1
 obtain rfl:=ro;have cO:au (kP p w S aI as K) L.k L.A dj bH bW br:=H'.go bQ;obtain⟨aD,z,st',m',fw,fm,at'⟩:=gq bH fun k hk q=>by
  obtain⟨o,ho⟩:=cO.base.tS;have:=cO.rel.out k hk;rw[q,ho]at this;exact ns this
 refine at'.out _ _ br (W.choose (qm _) hX bQ cJ fw) ⟨H.fit,(cO.base.mono fT).cx,cO.rel.choose fw⟩ ?_ ((ti.go bQ ti.o).choose fw);rw[fw.len];exact dX.vD cO.rel fm hf fw.vm fun j k e=>(fw.lt j k e).1
noncomputable def fy(i:Nat):Stmt:=match di (jJ rW) i with
 |some s=>s
 |none=>.Pass default
noncomputable def bP:FE:=⟨rW.scope,[]⟩
section
variable{K:Frag}
noncomputable abbrev X0(p:Program)(w:World)(K:Frag)(k:Nat)(ns:List Int):iw:=iB (bN p w K) (cX (bN p w K) 60) (k+100) bP [("script",.lst (ns.map V.num))] [] (fy 0)
noncomputable abbrev ZK(p:Program)(w:World)(K:Frag)(k:Nat)(ns G:List Int):iw:=ja (X0 p w K k ns) ((.next,[]),[.list [] (G.map V.num)])
theorem Ol{ns:List Int}{i:Int}{G:List Int}(hG:G.length<24)(h1:Q ((.next,[(("cell":Str),.num i)]),[.list [] (G.map V.num++[.num (El i-10^18)])]))(h2:Q ((.next,[(("cell":Str),.num i)]),[.list [] (G.map V.num)])):
  Gd (fun _ _ _ _ _=>False) aI (i9 (X0 p w K k ns) (.num i) [] [.list [] (G.map V.num)]) Q:=by
 refine uA kr (nd (p:=((0:Int)≤18∧((Builtin.Int.intBits 10:Nat):Int)*18≤2^27)∧True) kr ⟨⟨by decide,by decide+kernel⟩,trivial⟩) fun c hc=> ?_;induction c using qd with
 |true=>exact kN (a:=((.next,[(("cell":Str),.num i)]),[.list [] (G.map V.num++[.num (El i-10^18)])])) kr (nd (p:=((0:Int)≤18∧((Builtin.Int.intBits 10:Nat):Int)*18≤2^27)∧(G.map V.num).length+1≤500∧True) kr ⟨⟨by decide,by decide+kernel⟩,by rw[List.length_map];exact wg ‹_›,trivial⟩) h1
 |false=>exact kN (a:=((.next,[(("cell":Str),.num i)]),[.list [] (G.map V.num)])) kr (gY kr) h2
noncomputable def KN(ns G:List Int)(sd:V):ai:=[("script",.lst (ns.map V.num)),("great",.loc 0),("seed",sd)]
theorem Dk(a:Int):(decide (Builtin.Int.intBits a>shortFactorBits)&&decide (Builtin.Int.intBits 48271>shortFactorBits)&&Builtin.Int.intTooBig ((Builtin.Int.intBits a:Int)+(Builtin.Int.intBits 48271:Int)))=true→False:=by
 have h:decide (Builtin.Int.intBits 48271>shortFactorBits)=false:=kr;rw[h];simp
theorem Om{ns G:List Int}{i sd:Int}(hv:v=.int sd∨v=.num sd)(h1:Q ((.next,KN ns G (.num (Int.fmod (sd*48271+i) 2147483629))++[(("cell":Str),.num i)]),[.list [] (G.map V.num)])):
  Gd (fun _ _ _ _ _=>False) aI (i9 (ZK p w K k ns G) (.num i) (KN ns G v) [.list [] (G.map V.num)]) Q:=by
 rcases hv with rfl|rfl
 ·exact kN kr (nd (p:=((decide (Builtin.Int.intBits sd>shortFactorBits)&&decide (Builtin.Int.intBits 48271>shortFactorBits)&&Builtin.Int.intTooBig ((Builtin.Int.intBits sd:Int)+(Builtin.Int.intBits 48271:Int)))=true→False)∧True) kr ⟨Dk sd,trivial⟩) h1
 ·exact kN kr (nd (p:=((decide (Builtin.Int.intBits sd>shortFactorBits)&&decide (Builtin.Int.intBits 48271>shortFactorBits)&&Builtin.Int.intTooBig ((Builtin.Int.intBits sd:Int)+(Builtin.Int.intBits 48271:Int)))=true→False)∧True) kr ⟨Dk sd,trivial⟩) h1
noncomputable def KO(ns:List Int):ai:=[("script",.lst (ns.map V.num))]
noncomputable def DN(ns:List Int):ai:=[("script",.lst (ns.map V.num)),("due",.loc 2),("marks",.loc 1),("bag",.loc 0)]
noncomputable def Bc(o:AO):St:=[o,.list [] [],.list [] []]
theorem G1(G:List Int):bB (G.map V.num)=true:=gr (fun i=>rfl) G
theorem U7(a:Int):0≤Int.fmod a 2147483629∧Int.fmod a 2147483629<2147483648:=by
 have h1:=qO a (b:=2147483629) (by decide);have h2:=Int.fmod_lt_of_pos a (b:=2147483629) (by decide);exact⟨h1,by lia⟩
theorem U8{ns G:List Int}{sd b:Int}{u:V}(hu:u=.int sd∨u=.num sd)(pP:g7 p w K L B f (Bc (kH G 0 sd b)) (DN ns) rest):
  ∀σ:Nat→Addr,∃aD z st' m',nV 0 aD z σ [.list [] (G.map V.num),.list [] [],.list [] [.loc 0,.int 0,u,.int b],.list [] [],.list [] []] st'∧mL 0 aD z σ [.list [] (G.map V.num),.list [] [],.list [] [.loc 0,.int 0,u,.int b],.list [] [],.list [] []] false
   [(("script":Str),.lst (ns.map V.num)),(("due":Str),.loc 4),(("marks":Str),.loc 3),(("bag":Str),.loc 2)] m'∧g7 p w K L B f st' m' rest:=by
 intro σ;refine⟨[2,3,4],(· ∈[0]),Bc (kH G 0 sd b),DN ns,xd rfl (.cons rfl (.list (.cons (.lst (k:=0) (List.mem_singleton.mpr rfl) rfl (gT (G1 G))) (.cons (.Nr 0) (.cons ?_ (.cons (.Nr b) .nil))))) (.cons rfl (.fix rfl) (.cons rfl (.fix rfl) .nil))),.cons (.closed rfl) (.cons (.loc rfl) (.cons (.loc rfl) (.cons (.loc rfl) .nil))),pP⟩;rcases hu with rfl|rfl
 ·exact .Nr _
 ·exact .closed rfl
end
theorem mV(p:Program)(w:World)(K:Frag):Kept (bN p w K):=oR fun d a A I σ st s E args ys Q W ha=>by exact ft ha
section
variable{K:Frag}
theorem zM{ns:List Int}(h:ns.length+1≤n):(ns.map V.num).length+1≤n:=by rw[List.length_map];exact h
theorem X3{ns:List Int}(hl:ns.length≤63){L:LW}(hk:L.k=k+100)(eS:L.fe=bP)(hX:∀b,aF L.env b→B.X b)
  (pP:∀o,Bg 1000000 o→g7 p w K L B f (Bc o) (DN ns) rest):g7 p w K L B f [] (KO ns) (fy 0::rest):=by
 refine Iq (S:=fun _ _ _ _ _=>False) (as:=[]) (eY (mV p w K) 60) hX (by rw[eS];rfl) ?_;rw[hk,eS];refine BZ ((ns.map V.num).take 24) [] [.list [] []] (fun vs m st=>∃(r G:List Int),vs=r.map V.num∧m=[]∧st=[.list [] (G.map V.num)]∧G.length+r.length≤24) kr (nd (p:=(ns.map V.num).length+1≤1000∧True) kr ⟨zM (by lia),trivial⟩)
  ⟨ns.take 24,[],(List.map_take ..).symm,rfl,rfl,by simp;lia⟩ ?_ ?_
 ·rintro v r m st ⟨r',G,e,rfl,rfl,hG⟩;induction r' using qh with
  |nil=>cases e
  |cons i r'=>
   simp only[List.map_cons,List.cons.injEq]at e;obtain⟨rfl,rfl⟩:=e;simp only[List.length_cons]at hG;exact Ol (k:=k) (ns:=ns) (by lia) ⟨r',G++[El i-10^18],rfl,kr,by rw[List.map_append];rfl,by simp;lia⟩ ⟨r',G,rfl,kr,rfl,by exact qL ‹_›⟩
 ·rintro m st ⟨r',G,e,rfl,rfl,hG⟩;have hG:G.length≤24:=by exact Rn ‹_›
  refine BZ ((ns.map V.num).take 24) (KN ns G (.int 113017)) [.list [] (G.map V.num)] (fun vs m st=>∃(r:List Int) (v:V) (sd:Int),vs=r.map V.num∧(v=.int sd∨v=.num sd)∧0≤sd∧sd<2147483648∧m=KN ns G v∧st=[.list [] (G.map V.num)]) kr (nd (p:=(ns.map V.num).length+1≤1000∧True) kr ⟨zM (by lia),trivial⟩)
   ⟨ns.take 24,.int 113017,113017,(List.map_take ..).symm,.inl rfl,by decide,by decide,rfl,rfl⟩ ?_ ?_
  ·rintro v r m st ⟨r',u,sd,e,hu,h0,h1,rfl,rfl⟩;induction r' using qh with
   |nil=>cases e
   |cons i r'=>
    simp only[List.map_cons,List.cons.injEq]at e;obtain⟨rfl,rfl⟩:=e;obtain⟨f0,f1⟩:=U7 (sd*48271+i);exact Om (k:=k) hu ⟨r',.num (Int.fmod (sd*48271+i) 2147483629),_,rfl,.inr rfl,f0,f1,kr,rfl⟩
  ·rintro m st ⟨r',u,sd,e,hu,h0,h1,rfl,rfl⟩;have eN:∀b,Bg 1000000 (kH G 0 sd b):=fun b=>.mk hG (by decide) (by decide) h0 h1;have fin:∀b,∀q:cz,q=((.next,[(("script":Str),.lst (ns.map V.num)),(("due":Str),.loc 4),(("marks":Str),.loc 3),(("bag":Str),.loc 2)]),[.list [] (G.map V.num),.list [] [],.list [] [.loc 0,.int 0,u,.int b],.list [] [],.list [] []])→
     q.1.1=.next∧∀σ,(∀k,k<q.2.length→σ k≠sysModules)→∃aD z st' m',nV 0 aD z σ q.2 st'∧mL 0 aD z σ q.2 false q.1.2 m'∧g7 p w K L B f st' m' rest:=fun b q hq=>by
    subst hq;exact⟨rfl,fun σ _=>U8 hu (pP _ (eN b)) σ⟩
   induction G using qh with
   |nil=>
    refine uA (by rcases hu with rfl|rfl<;>kernel_rfl) (nd (p:=(ns.map V.num).length+1≤500∧True) (by rcases hu with rfl|rfl<;>kernel_rfl) ⟨zM (by lia),trivial⟩) fun c hc=> ?_
    induction c using qd with
    |true=>exact kN (a:=((.next,[(("script":Str),.lst (ns.map V.num)),(("due":Str),.loc 4),(("marks":Str),.loc 3),(("bag":Str),.loc 2)]),[.list [] [],.list [] [],.list [] [.loc 0,.int 0,u,.int 12],.list [] [],.list [] []])) (by rcases hu with rfl|rfl<;>kernel_rfl) (gY (by rcases hu with rfl|rfl<;>kernel_rfl)) (fin 12 _ rfl)
    |false=>exact kN (a:=((.next,[(("script":Str),.lst (ns.map V.num)),(("due":Str),.loc 4),(("marks":Str),.loc 3),(("bag":Str),.loc 2)]),[.list [] [],.list [] [],.list [] [.loc 0,.int 0,u,.int 5],.list [] [],.list [] []])) (by rcases hu with rfl|rfl<;>kernel_rfl) (gY (by rcases hu with rfl|rfl<;>kernel_rfl)) (fin 5 _ rfl)
   |cons g G=>exact kN (a:=((.next,[(("script":Str),.lst (ns.map V.num)),(("due":Str),.loc 4),(("marks":Str),.loc 3),(("bag":Str),.loc 2)]),[.list [] ((g::G).map V.num),.list [] [],.list [] [.loc 0,.int 0,u,.int 12],.list [] [],.list [] []])) (by rcases hu with rfl|rfl<;>kernel_rfl) (gY (by rcases hu with rfl|rfl<;>kernel_rfl)) (fin 12 _ rfl)
end
noncomputable def X4(t:aB)(b o:Tree 2):Tree 3:=Tr.jT (some (Tr.leaf (.int 1):Tree 2)) [([t],b)] (some o)
theorem U9(h1:t.ok)(h2:Tree.ok 2 b)(h3:Tree.ok 2 o):Tree.ok 3 (X4 t b o):=
 ⟨⟨by decide,by decide⟩,⟨by exact rF,fun w hw=>by simp at hw;subst hw;exact⟨⟨⟨by exact rF,by exact rF⟩,fun x hx=>by simp at hx;subst hx;exact h1⟩,h2⟩⟩,h3⟩
noncomputable def gV(ns:List Int)(y:V)(T:Tree 3):ai:=[("script",.lst (ns.map V.num)),("due",.loc 1),("marks",.loc 0),("bag",y),("tree",Tree.v 3 T)]
noncomputable def jg:St:=[.list [] [],.list [] []]
section
variable{K:Frag}
theorem X5(n:Nat):aU (kP p w (jr n) aI JU K) (cX (HS p w K n) 60):=eY (Zq p w K n) 60
theorem X6{ns:List Int}{o:AO}(eN:Bg 1000000 o){L:LW}(hk:L.k=k+100)(eS:L.fe=bP)(hX:∀b,aF L.env b→B.X b)
  (pP:∀T y,Tree.ok 3 T→g7 p w K L B f jg (gV ns (.aL y) T) rest):g7 p w K L B f (Bc o) (DN ns) (fy 1::rest):=by
 refine Iq (S:=jr 20) (as:=JU) (X5 20) hX (by rw[eS];rfl) ?_;rw[hk,eS];refine Fp (k+100) 999990 (by decide) (qg 8 (k+92)) eN fun t o1 ot b=> ?_;refine jN (k+100) 2 999365 (x:=2) rfl (by decide) (by decide) (qg 30 (k+70)) b (by decide) fun t1 o2 o1' b=> ?_;refine jN (k+100) 2 998740 (x:=2) rfl (by decide) (by decide) (qg 30 (k+70)) b (by decide) fun t2 o3 o2' b=> ?_;refine oY (a:=((.next,[(("script":Str),.lst (ns.map V.num)),(("due":Str),.loc 2),(("marks":Str),.loc 1),(("bag":Str),.loc 0),(("tree":Str),.tup [.str "case",.tup [.str "int",.int 1],.loc 4,Tree.v 2 t2])]),[o3,.list [] [],.list [] [],.list [] [t.v],.list [] [.tup [.loc 3,Tree.v 2 t1]]])) ?_ trivial kr;exact⟨rfl,fun σ _=>⟨[1,2],(· ∈[3,4]),jg,gV ns (.aL (.ref (σ 0))) (X4 t t1 t2),xd rfl (.cons rfl (.fix rfl) (.cons rfl (.fix rfl) .nil)),.cons (.closed rfl) (.cons (.loc rfl) (.cons (.loc rfl) (.cons (.aL 0) (.cons (.tup (.cons (.closed rfl) (.cons (.closed rfl) (.cons
  (.lst (k:=4) (.tail _ (.head _)) rfl (.cons (.tup (.cons (.lst (k:=3) (.head _) rfl (.cons (.closed (mF t)) .nil)) (.cons (.closed (fN 2 t1)) .nil))) .nil)) (.cons (.closed (fN 2 t2)) .nil))))) .nil)))),pP _ _ (U9 ot o1' o2')⟩⟩
end
section
open PySem.SeqAt
section
variable{st:St}
set_option backward.match.sparseCases true in
theorem zN(H:au cx (k+1) A I σ st s)(ho:I a=some o)(hd:o.data=.func fd)(hg:fd.globals=mainGlobals)
  (hb:fd.builtins=builtinsNs)(hc:∃c co vs t,fd.code=.ref c∧I c=some co∧co.data=.fields vs∧vs[1]? =some (.str fd.qualname t))(jy:fd.closure=[])(dfn:fd.defaults=.none)
  (r:aG I cx.P σ st.length args ys)(CD:xU fd [] []=true)(hm:u6 fd [] args=some m)(nM:fd.body=.stmts body)
  (h:∀env s₁,((gJ fd.scope.names=true∧env=callEnv fd s.heap.objs.size a)∨(gJ fd.scope.names=false∧env=callEnvC fd s.heap.objs.size a))→(∀b,aF env b→s.heap.get? b=none)→(∀b o,s.heap.get? b=some o→s₁.heap.get? b=some o)→bw s s₁→sL k (A.deeper env)→
   av cx.P ⟨fd.scope,[]⟩ m env I σ st.length s₁.heap→∀E':dS,wpAny cx.M (A.deeper env) (execs body env) (fun f s'=>Q (match f with|.ret v=>v|_=>.none) s') E' s₁):wpAny cx.M A (call (.ref a) ys) Q E s:=by
 exact wpAny_call (Ex H ⟨⟨o,ho,hd⟩,hc,hg,hb,jy▸.nil,.inl ⟨dfn,rfl⟩⟩ r CD hm nM h)
end
noncomputable def sE:List (Pos×Addr)→LV
 |[]=>[]
 |p::l=>rawInt p.1.line::rawInt p.1.col::.ref p.2::sE l
theorem yZ:∀(a b:List (Pos×Addr)),sE (a++b)=sE a++sE b
 |[],b=>rfl
 |p::a,b=>by simp[sE,yZ a b]
theorem Cj:∀l,TriplesOk (sE l)
 |[]=>trivial
 |p::l=>Cj l
noncomputable def vE(pos:Pos):List Pos→Bool
 |[]=>true
 |p::l=> !(p.line==pos.line&&p.col==pos.col)&&vE pos l
theorem xu:∀{l:List (Pos×Addr)},vE pos (l.map (·.1))=true→codeAmong pos (sE l)=none
 |[],_=>rfl
 |p::l,h=>by
  simp only[List.map_cons,vE,Bool.and_eq_true,Bool.not_eq_true']at h;have ih:=xu (l:=l) h.2;unfold sE rawInt codeAmong;rw[if_neg]
  ·exact ih
  ·intro q;simp only[Bool.and_eq_true,beq_iff_eq]at q;have h1:=h.1;simp only[Bool.and_eq_false_iff,beq_eq_false_iff_ne]at h1;rcases h1 with h1|h1
   ·exact h1 (by exact_mod_cast q.1)
   ·exact h1 (by exact_mod_cast q.2)
def QN(I:IM)(h:Heap):Prop:=∀b o,I b=some o→h.get? b=some o
structure KB (I:IM) (c P:Addr):Prop where
 code:∀h,QN I h→CodeHd h c P
 blt:∀h,QN I h→∃mg,h.Ns mainGlobals mg∧h.BuiltinsAt mg P
 gP:mainGlobals≠P
theorem KB.mono(b:KB I c P)(h:f7 I I'):KB I' c P:=⟨fun x hx=>b.code x fun y o e=>hx y o (h y o e),fun x hx=>b.blt x fun y o e=>hx y o (h y o e),b.gP⟩
section
variable{P:Params}{st:St}{X:Addr→Prop}
theorem aM.make(r:cF P I σ st h)(hX:X T)(iT:I T=none)(sT:∀j,j<st.length→σ j≠T)(kp:Heap.ExtBut T h h')(tT:∃o,h'.get? T=some o)(hc:h.objs.size≤c')(gc:h'.get? c'=some oc)(RI:h.objs.size≤h'.objs.size)(hf:fo.isFreed=false):
  aM P X I σ st.length h (dW (dW I c' oc) h'.objs.size fo) σ st (h'.push fo)∧f7 I (dW (dW I c' oc) h'.objs.size fo)∧dW (dW I c' oc) h'.objs.size fo h'.objs.size=some fo∧dW (dW I c' oc) h'.objs.size fo c'=some oc∧(dW (dW I c' oc) h'.objs.size fo T=none∨h.get? T=none):=by
 have DO:h.get? c'=none:=Heap.get?_none_of_le hc;have DP:h.get? h'.objs.size=none:=Heap.get?_none_of_le RI;have X7:c'<h'.objs.size:=Heap.lt_size gc;have i1:f7 I (dW I c' oc):=lO oc (r.pZ DO);have n2:dW I c' oc h'.objs.size=none:=by
  induction q:dW I c' oc h'.objs.size using qe with
  |none=>rfl
  |some o=>
   rcases eV q with⟨e,_⟩|⟨_,e⟩
   ·exact absurd e (Nat.ne_of_gt X7)
   ·rw[r.pZ DP]at e;exact nn e
 have i2:f7 I (dW (dW I c' oc) h'.objs.size fo):=fun b o e=>lO fo n2 b o (i1 b o e);have keep:∀b o,b≠T→h.get? b=some o→(h'.push fo).get? b=some o:=fun b o hb e=>Heap.get?_push_of_some _ (kp b o hb e);have live:∀j,j<st.length→∃o,h.get? (σ j)=some o:=fun j hj=>r.live hj;refine⟨⟨⟨i2,fun _ _=>rfl,qf _⟩,fun b o e=> ?_,fun k a b=>absurd a (Nat.not_le.mpr b),⟨fun b o e=> ?_,fun j o e=> ?_,r.inj,fun j hj=> ?_⟩,fun b o e hx _=>keep b o (fun q=>hx (q▸hX)) e,fun b o e=> ?_⟩,i2,kX .., ?_, ?_⟩
 ·rcases eV e with⟨q,_⟩|⟨_,e⟩
  ·rw[q];exact .inr DP
  ·rcases eV e with⟨q,_⟩|⟨_,e⟩
   ·rw[q];exact .inr DO
   ·exact .inl e
 ·rcases eV e with⟨q,q2⟩|⟨_,e⟩
  ·rw[q,q2];exact Heap.get?_push_size _ hf
  ·rcases eV e with⟨q,q2⟩|⟨_,e⟩
   ·rw[q,q2];exact Heap.get?_push_of_some _ gc
   ·exact keep b o (fun q=>by rw[q,iT]at e;exact nn e) (r.sub b o e)
 ·obtain⟨ob,g,gC⟩:=r.cells j o e;exact⟨ob,keep _ _ (sT j (List.getElem?_eq_some_iff.mp e).1) g,gC.mono ⟨i2,fun _ _=>rfl,qf _⟩⟩
 ·obtain⟨o,g⟩:=live j hj;induction q:dW (dW I c' oc) h'.objs.size fo (σ j)using qe with
  |none=>rfl
  |some o'=>
   rcases eV q with⟨e,_⟩|⟨_,e⟩
   ·rw[e,DP]at g;exact nn g
   ·rcases eV e with⟨e,_⟩|⟨_,e⟩
    ·rw[e,DO]at g;exact nn g
    ·rw[r.out j hj]at e;exact nn e
 ·by_cases q:b=T
  ·subst q;obtain⟨o',e'⟩:=tT;exact⟨o',Heap.get?_push_of_some _ e'⟩
  ·exact⟨o,keep b o q e⟩
 ·exact lO fo n2 _ _ (kX ..)
 ·induction q:h.get? T using qe with
  |none=>exact .inr rfl
  |some o=>
   refine .inl ?_;induction z:dW (dW I c' oc) h'.objs.size fo T using qe with
   |none=>rfl
   |some o'=>
    rcases eV z with⟨e,_⟩|⟨_,e⟩
    ·rw[e,DP]at q;exact nn q
    ·rcases eV e with⟨e,_⟩|⟨_,e⟩
     ·rw[e,DO]at q;exact nn q
     ·rw[iT]at e;exact nn e
end
structure KS (cx:Cx) (k:Nat) (A:Around) (fe:FE) (env:Env) (T:Addr) (I0:IM) (jK:Nat→Addr) (n0:Nat) (s0:Shared) (I:IM) (σ:Nat→Addr) (st:St) (s:Shared) (m:ai) (cs:List (Pos×Addr)):Prop where
 H:au cx k A I σ st s
 l:av cx.P fe m env I σ st.length s.heap
 x:aM cx.P (fun b=>b=T∨aF env b) I0 jK n0 s0.heap I σ st s.heap
 sm:bw s0 s
 tab:s.heap.get? T=some (tabObj (sE cs).toArray)
 iT:I T=none
 sT:∀j,j<st.length→σ j≠T
 oT:¬aF env T
theorem av.kept(l:av P fe m env I σ n h)(hf:fe.free=[])(i:f7 I I')(kp:∀b o,aF env b→h.get? b=some o→h'.get? b=some o)(ap:∀b,aF env b→I' b=none):
  av P fe m env I' σ n h':=by
 have le:Le I I' σ σ n n:=⟨i,fun _ _=>rfl,qf _⟩;refine⟨l.scope,l.kind,l.glob,l.blt, ?_,fun x v e hk=> ?_,fun x hk=> ?_,fun x v e=> ?_,fun b hb=>⟨ap b hb,(l.apart b hb).2⟩,l.ne,l.inj⟩
 ·obtain⟨mm,⟨o,es,ep,ho,hd⟩,h2⟩:=l.ns;refine⟨mm,⟨o,es,ep,kp _ _ (.inl rfl) ho,hd⟩,fun x v e hk=> ?_⟩;obtain⟨y,e1,r⟩:=h2 x v e hk;exact⟨y,e1,r.mono le⟩
 ·obtain⟨d,y,h1,⟨o,ho,hd⟩,r⟩:=l.cell x v e hk;exact⟨d,y,h1,⟨o,kp _ _ (.inr ⟨x,hk,h1⟩) ho,hd⟩,r.mono le⟩
 ·obtain⟨c,v,h1,o,ho,hd⟩:=l.there x hk;exact⟨c,v,h1,o,kp _ _ (.inr ⟨x,hk,h1⟩) ho,hd⟩
 ·rw[hf]at e;exact nn e
section
variable{st:St}
theorem Ir(S:KS cx k A fe env T I0 jK n0 s0 I σ st s m cs)(hf:fe.free=[])(kp:Heap.ExtBut T s.heap h')(hc:s.heap.objs.size≤c')(gc:h'.get? c'=some oc)(tT:h'.get? T=some (tabObj ((sE cs).toArray++ #[rawInt pos.line,rawInt pos.col,.ref c'])))(CD:fo.isFreed=false):
  ∃I',KS cx k A fe env T I0 jK n0 s0 I' σ st {s with heap:=h'.push fo,toks:=tk} m (cs++[(pos,c')])∧f7 I I'∧I' h'.objs.size=some fo∧I' c'=some oc:=by
 have RI:s.heap.objs.size≤h'.objs.size:=qL (Nat.lt_of_le_of_lt hc (Heap.lt_size gc));obtain⟨x,i1,i2,i3,i4⟩:=aM.make (X:=fun b=>b=T∨aF env b) (fo:=fo) S.H.rel (.inl rfl) S.iT S.sT kp ⟨_,tT⟩ hc gc RI CD;refine⟨_,⟨⟨S.H.fit,S.H.base.mono i1,x.rel⟩, ?_,S.x.trans x,S.sm.trans ⟨rfl,rfl,rfl⟩, ?_, ?_,S.sT,S.oT⟩,i1,i2,i3⟩
 ·refine S.l.kept hf i1 (fun b o hb e=>Heap.get?_push_of_some _ (kp b o (fun q=>S.oT (q▸hb)) e)) fun b hb=> ?_;have ap:=S.l.apart b hb;have ZM:∃o,s.heap.get? b=some o:=by
   rcases hb with rfl|⟨y,hy,hc⟩
   ·obtain⟨mm,⟨o,_,_,ho,_⟩,_⟩:=S.l.ns;exact⟨o,ho⟩
   ·obtain⟨c,v,h1,o,ho,_⟩:=S.l.there y hy;rw[hc]at h1;obtain rfl:=qc h1;exact⟨o,ho⟩
  obtain⟨o,ho⟩:=ZM;induction q:dW (dW I c' oc) h'.objs.size fo b using qe with
  |none=>rfl
  |some o'=>
   rcases x.fresh b o' q with q|q
   ·rw[ap.1]at q;exact nn q
   ·rw[ho]at q;exact ns q
 ·show(h'.push fo).get? T=_;rw[Heap.get?_push_of_some _ tT,yZ];simp[sE]
 ·rcases i4 with q|q
  ·exact q
  ·rw[S.tab]at q;exact ns q
theorem X8(S:KS cx k A fe env T I0 jK n0 s0 I σ st s m cs)(hf:fe.free=[])(kb:KB I c T)(wG:closureFor scope env=pure clos)(Bd:env.code=.ref c)(sF:vE pos (cs.map (·.1))=true)
  (h:∀I' s' f c' oc vs t y9 pm sG,KS cx k A fe env T I0 jK n0 s0 I' σ st s' m (cs++[(pos,c')])→f7 I I'→I' f=some (fnMade name qual params body scope clos y9 pm c' sG)→I' c'=some oc→oc.data=.fields vs→vs[1]? =some (.str qual t)→Q (.ref f) s'):
  wpAny cx.M A (makeFunction name qual params (.stmts body) scope env [] [] [] pos Oo) Q E s:=by
 obtain⟨mg,hg,hb⟩:=kb.blt s.heap S.H.rel.sub;refine makeFunction_K (mg:=mg) wG S.l.glob hg Bd (kb.code s.heap S.H.rel.sub) S.tab (by rw[List.toList_toArray];exact Cj cs) (by rw[List.toList_toArray];exact xu sF) kb.gP hb fun c' sG y9 h' tk hx X9 X7 QO Yb=> ?_;obtain⟨c₂,oc,vs,t,e2,Yc,hd,hv⟩:=QO;cases e2
 obtain⟨I',S',i1,i2,i3⟩:=Ir S hf hx X9 Yc Yb (fo:=fnMade name qual params body scope clos y9 ((mg "__name__").getD .none) c' sG) rfl (tk:=tk);exact h I' _ _ c' oc vs t y9 _ sG S' i1 i2 i3 hd hv
theorem Yd(S:KS cx k A fe env T I0 jK n0 s0 I σ st s m cs)(hf:fe.free=[])(kb:KB I c T)(wG:closureFor scope env=pure clos)(Bd:env.code=.ref c)(sF:vE pos (cs.map (·.1))=true)
  (h:∀I' s' f c' oc vs t pm sG,KS cx k A fe env T I0 jK n0 s0 I' σ st s' m (cs++[(pos,c')])→f7 I I'→I' f=some (kla_obj name qual params body scope clos pm c' sG)→I' c'=some oc→oc.data=.fields vs→vs[1]? =some (.str qual t)→Q (.ref f) s'):
  wpAny cx.M A (makeFunction name qual params (.expr body) scope env [] [] [] pos Oo) Q E s:=by
 obtain⟨mg,hg,hb⟩:=kb.blt s.heap S.H.rel.sub;refine kla_makeFunction (mg:=mg) wG S.l.glob hg Bd (kb.code s.heap S.H.rel.sub) S.tab (by rw[List.toList_toArray];exact Cj cs) (by rw[List.toList_toArray];exact xu sF) kb.gP hb fun c' sG h' tk hx X9 X7 QO Yb=> ?_;obtain⟨c₂,oc,vs,t,e2,Yc,hd,hv⟩:=QO;cases e2
 obtain⟨I',S',i1,i2,i3⟩:=Ir S hf hx X9 Yc Yb (fo:=kla_obj name qual params body scope clos ((mg "__name__").getD .none) c' sG) rfl (tk:=tk);exact h I' _ _ c' oc vs t _ sG S' i1 i2 i3 hd hv
theorem KS.go(S:KS cx k A fe env T I0 jK n0 s0 I σ st s m cs)(x:aM cx.P (aF env) I σ st.length s.heap I' af st' s'.heap)(sm:bw s s')(l':av cx.P fe m' env I' af st'.length s'.heap):
  KS cx k A fe env T I0 jK n0 s0 I' af st' s' m' cs:=by
 refine⟨S.H.go x,l',S.x.trans (x.weaken fun b hb=>.inr hb),S.sm.trans sm,x.keep _ _ S.tab S.oT S.sT, ?_,fun j hj=> ?_,S.oT⟩
 ·induction q:I' T using qe with
  |none=>rfl
  |some o=>
   rcases x.fresh T o q with q|q
   ·rw[S.iT]at q;exact nn q
   ·rw[S.tab]at q;exact ns q
 ·by_cases h:j<st.length
  ·rw[x.le.s j h];exact S.sT j h
  ·intro z;have:=x.new j (qC h) hj;rw[z,S.tab]at this;exact ns this
theorem Va(S:KS cx k A fe env T I0 jK n0 s0 I σ st s m cs)(hf:fe.free=[])(kb:KB I c T){clos:List (Str×Addr)}{pos:Pos}{E:dS}{Q:Flow→SP}(Ye:params.defaults=[])(Yg:params.kw_defaults=[])(Yh:annTrees params none env=[])
  (wG:closureFor scope env=pure clos)(Bd:env.code=.ref c)(sF:vE pos (cs.map (·.1))=true)(QS:rL fe name=true)
  (h:∀I' s' f c' oc vs t y9 pm sG,KS cx k A fe env T I0 jK n0 s0 I' σ st s' (put name (.aL (.ref f)) m) (cs++[(pos,c')])→f7 I I'→I' f=some (fnMade name (qualnameIn env name name) params body scope clos y9 pm c' sG)→I' c'=some oc→oc.data=.fields vs→vs[1]? =some (.str (qualnameIn env name name) t)→Q .next s'):
  wpAny cx.M A (exec (.FunctionDef name params body [] none [] scope none name pos) env) Q E s:=by
 refine nestDef_K Ye Yg Yh (X8 S hf kb wG Bd sF fun I' s' f c' oc vs t y9 pm sG S' i1 i2 i3 i4 i5=> ?_);refine p5 S'.H S'.l QS (.aL _) fun wj x sm l'=> ?_;exact h I' wj f c' oc vs t y9 pm sG (S'.go x sm l') i1 i2 i3 i4 i5
end
def cZ(I:IM)(f:Addr)(fl:FuncData)(clos:List (Str×Addr)):Prop:=
 ∃o fd c co vs t,I f=some o∧o.cls=.type "function"∧o.data=.func fd∧zT fl fd∧fd.code=.ref c∧I c=some co∧co.data=.fields vs∧vs[1]? =some (.str fd.qualname t)∧fd.closure=clos
theorem cZ.mono(h:cZ I f fl clos)(i:f7 I I'):cZ I' f fl clos:=
 (by obtain⟨o,fd,c,co,vs,t,h1,h2,h3,h4,h5,h6,h7⟩:=h;exact⟨o,fd,c,co,vs,t,i _ _ h1,h2,h3,h4,h5,i _ _ h6,h7⟩)
noncomputable def kA(i:Nat):Arguments:=match jU i with
 |some s=>match s with
  |.FunctionDef _ a _ _ _ _ _ _ _ _=>a
  |_=>default
 |none=>default
noncomputable def Dl(i:Nat):List Stmt:=match jU i with
 |some s=>match s with
  |.FunctionDef _ _ b _ _ _ _ _ _ _=>b
  |_=>[]
 |none=>[]
noncomputable def Be(i:Nat):Scope:=match jU i with
 |some s=>match s with
  |.FunctionDef _ _ _ _ _ _ sc _ _ _=>sc
  |_=>default
 |none=>default
noncomputable def iZ(i:Nat):Pos:=match jU i with
 |some s=>match s with
  |.FunctionDef _ _ _ _ _ _ _ _ _ p=>p
  |_=>default
 |none=>default
noncomputable def fF:FE:=⟨nQ.scope,[]⟩
noncomputable abbrev fP(L:Addr):Env:=callEnvC nQ L 1266
noncomputable abbrev yq(L:Addr):List (Str×Addr):=[("marks",L+1),("leave_or_done",L+2)]
noncomputable abbrev Yi(L:Addr):List (Str×Addr):=[("leave_or_done",L+2)]
noncomputable abbrev SO(L:Addr):List (Str×Addr):=[("marks",L+1)]
section
variable{st:St}
theorem rB(S:KS cx k A fF (fP L) T I0 jK n0 s0 I σ st s m cs)(kb:KB I 1265 T)(QT:jU i=some (.FunctionDef nm (kA i) (Dl i) [] none [] (Be i) none nm (iZ i)))
  (Ye:(kA i).defaults=[])(Yg:(kA i).kw_defaults=[])(Yh:annTrees (kA i) none (fP L)=[])(wG:closureFor (Be i) (fP L)=pure clos)(sF:vE (iZ i) (cs.map (·.1))=true)(QS:rL fF nm=true)(hq:qualnameIn (fP L) nm nm="_law_kinds.<locals>."++nm)
  (h:∀I' s' f c',KS cx k A fF (fP L) T I0 jK n0 s0 I' σ st s' (put nm (.aL (.ref f)) m) (cs++[(iZ i,c')])→f7 I I'→cZ I' f (dN nm i) clos→Q .next s'):
  wpAny cx.M A (exec (.FunctionDef nm (kA i) (Dl i) [] none [] (Be i) none nm (iZ i)) (fP L)) Q E s:=by
 refine Va S rfl kb Ye Yg Yh wG rfl sF QS fun I' s' f c' oc vs t y9 pm sG S' i1 i2 i3 i4 i5=>h I' s' f c' S' i1 ?_;refine⟨_,_,c',oc,vs,t,i2,rfl,rfl, ?_,rfl,i3,i4,by rw[←hq]at*;exact i5,rfl⟩;unfold dN P0;rw[QT];exact⟨rfl,rfl,rfl,rfl,rfl,rfl,rfl,hq⟩
theorem Yj(ZN:jJ nQ=.FunctionDef "leave_or_done" (kA 0) (Dl 0) [] none [] (Be 0) none "leave_or_done" (iZ 0)::.FunctionDef "made" (kA 1) (Dl 1) [] none [] (Be 1) none "made" (iZ 1)::.FunctionDef "toss" (kA 2) (Dl 2) [] none [] (Be 2) none "toss" (iZ 2)::
   .FunctionDef "guarded" (kA 3) (Dl 3) [] none [] (Be 3) none "guarded" (iZ 3)::.FunctionDef "sending" (kA 4) (Dl 4) [] none [] (Be 4) none "sending" (iZ 4)::.FunctionDef "settle" (kA 5) (Dl 5) [] none [] (Be 5) none "settle" (iZ 5)::rest)
  (S:KS cx k A fF (fP L) T I0 jK n0 s0 I σ st s [(("marks":Str),.loc l)] [])(kb:KB I 1265 T)
  (h:∀I' s' f0 f1 f2 f3 f4 f5 c0 c1 c2 c3 c4 c5,KS cx k A fF (fP L) T I0 jK n0 s0 I' σ st s' [(("marks":Str),.loc l),(("leave_or_done":Str),.aL (.ref f0)),(("made":Str),.aL (.ref f1)),(("toss":Str),.aL (.ref f2)),(("guarded":Str),.aL (.ref f3)),(("sending":Str),.aL (.ref f4)),(("settle":Str),.aL (.ref f5))]
    [(iZ 0,c0),(iZ 1,c1),(iZ 2,c2),(iZ 3,c3),(iZ 4,c4),(iZ 5,c5)]→f7 I I'→cZ I' f0 (dN "leave_or_done" 0) []→cZ I' f1 (dN "made" 1) (yq L)→cZ I' f2 (dN "toss" 2) (Yi L)→cZ I' f3 (dN "guarded" 3) (yq L)→cZ I' f4 (dN "sending" 4) (yq L)→cZ I' f5 (dN "settle" 5) (SO L)→
    wpAny cx.M A (execs rest (fP L)) Q E s'):wpAny cx.M A (execs (jJ nQ) (fP L)) Q E s:=by
 rw[ZN];refine wpAny_execs_cons (rB S kb kr kr kr kr (clos:=[]) kr kr kr kr fun I1 s1 f0 c0 S1 j1 C0=> ?_);refine wpAny_execs_cons (rB S1 (kb.mono j1) kr kr kr kr (clos:=yq L) kr kr kr kr fun I2 s2 f1 c1 S2 j2 C1=> ?_);have k2:f7 I I2:=fun b o e=>j2 b o (j1 b o e);refine wpAny_execs_cons (rB S2 (kb.mono k2) kr kr kr kr (clos:=Yi L) kr kr kr kr fun I3 s3 f2 c2 S3 j3 C2=> ?_);have k3:f7 I I3:=fun b o e=>j3 b o (k2 b o e);refine wpAny_execs_cons (rB S3 (kb.mono k3) kr kr kr kr (clos:=yq L) kr kr kr kr fun I4 s4 f3 c3 S4 j4 C3=> ?_);have k4:f7 I I4:=fun b o e=>j4 b o (k3 b o e);refine wpAny_execs_cons (rB S4 (kb.mono k4) kr kr kr kr (clos:=yq L) kr kr kr kr fun I5 s5 f4 c4 S5 j5 C4=> ?_);have k5:f7 I I5:=fun b o e=>j5 b o (k4 b o e);refine wpAny_execs_cons (rB S5 (kb.mono k5) kr kr kr kr (clos:=SO L) kr kr kr kr fun I6 s6 f5 c5 S6 j6 C5=> ?_);have k6:f7 I I6:=fun b o e=>j6 b o (k5 b o e);have em:put "settle" (.aL (.ref f5)) (put "sending" (.aL (.ref f4)) (put "guarded" (.aL (.ref f3)) (put "toss" (.aL (.ref f2)) (put "made" (.aL (.ref f1)) (put "leave_or_done" (.aL (.ref f0)) [(("marks":Str),V.loc l)])))))=
   [(("marks":Str),.loc l),(("leave_or_done":Str),.aL (.ref f0)),(("made":Str),.aL (.ref f1)),(("toss":Str),.aL (.ref f2)),(("guarded":Str),.aL (.ref f3)),(("sending":Str),.aL (.ref f4)),(("settle":Str),.aL (.ref f5))]:=kr
 rw[em]at S6;exact h I6 s6 f0 f1 f2 f3 f4 f5 c0 c1 c2 c3 c4 c5 S6 k6 ((((((C0.mono j2).mono j3).mono j4).mono j5).mono j6)) (((((C1.mono j3).mono j4).mono j5).mono j6)) ((((C2.mono j4).mono j5).mono j6)) (((C3.mono j5).mono j6)) ((C4.mono j6)) C5
end
noncomputable def KV(I:IM)(P:Params)(σ:Nat→Addr)(n:Nat):ai→List (Str×Value)→Prop
 |[],ks=>ks=[]
 |p::fs,ks=>∃y r,ks=(p.1,y)::r∧aq I P σ n p.2 y∧KV I P σ n fs r
section
theorem KV.keys:∀{ks:List (Str×Value)},KV I P σ n fs ks→ks.map (·.1)=fs.map (·.1):=by
 induction fs with
 |nil=>exact fun e=>congrArg _ e
 |cons p fs ih=>
  rintro ks ⟨y,r,e,_,h⟩;exact e▸congrArg (p.1::·) (ih h)
theorem KV.append(q:KV I P σ n gs ls):∀{ks:List (Str×Value)},KV I P σ n fs ks→KV I P σ n (fs++gs) (ks++ls):=by
 induction fs with
 |nil=>exact fun e=>e▸q
 |cons p fs ih=>exact fun⟨y,r,e,h,t⟩=>⟨y,r++ls,congrArg (· ++ls) e,h,ih t⟩
theorem KV.of(w:World)(prog:Program):∀{es:List DictEntry},bF I P σ n fs es→∃kvs:List (Str×Value),Pairs (strKind prog w) es kvs∧KV I P σ n fs kvs:=by
 induction fs with
 |nil=>intro es r;rw[show es=[]from r.inv];exact⟨[],.nil,rfl⟩
 |cons p fs ih=>
  intro es r;replace r:=r.inv;induction r using gh.casesOn with
  |mk h r=>obtain⟨kvs,q,e⟩:=ih r;exact⟨_,.cons (strKind_is prog w _ _) rfl q,_,_,rfl,h,e⟩
theorem Oq{x:Str}{e:DictEntry}(h1:(strKind prog w).is x e.key=true)(hk:∃k,(strKind prog w).is k e.key=true∧e.hash=(strKind prog w).hash k):∃t,e=⟨PyData.keyHash w.params x,.str x t,e.val⟩:=by
 obtain⟨k,q1,q2⟩:=hk;obtain⟨t,ht⟩:=Value.isStrOf_shape h1;obtain⟨t',ht'⟩:=Value.isStrOf_shape q1;rw[ht]at ht';injection ht' with z;subst z;exact⟨t,by rw[←ht,show PyData.keyHash w.params x=_ from q2.symm]⟩
theorem KV.back(w:World)(hw:w.params=P)(prog:Program):∀{es:List DictEntry} {kvs:List (Str×Value)},Pairs (strKind prog w) es kvs→(∀e∈es,∃k,(strKind prog w).is k e.key=true∧e.hash=(strKind prog w).hash k)→KV I P σ n fs kvs→bF I P σ n fs es:=by
 subst hw;induction fs with
 |nil=>
  intro es kvs p _ e;rw[show kvs=[]from e]at p;cases p
  exact .nil
 |cons p fs ih=>
  rintro es kvs q hk ⟨y,r,e,h,t⟩;rw[e]at q;cases q with
  |cons h1 h2 hp=>
   obtain⟨t',z⟩:=Oq h1 (hk _ qi);rw[z,show _=y from h2];exact .cons h (ih hp (fun e he=>hk e (qj _ he)) t)
end
section
variable{P:Params}{st:St}
theorem aM.turn(r:cF P I σ st h)(hk:k<st.length)(kp:Heap.SameBut (σ k) h h')(hb:h'.get? (σ k)=some ob)(hr:dw I P σ st.length ao ob):
  aM P (fun _=>False) I σ st.length h I σ (st.set k ao) h':=by
 have ln:(st.set k ao).length=st.length:=by simp
 have ne:∀b,b≠σ k→h'.get? b=h.get? b:=kp.2;have io:∀b x,I b=some x→b≠σ k:=fun b x e q=>by rw[q,r.out k hk]at e;exact nn e
 refine⟨ln▸Le.refl ..,fun _ _ e=>.inl e,fun j a b=>absurd a (Nat.not_le.mpr (ln▸b)),⟨fun b x e=>(ne b (io b x e)).trans (r.sub b x e),fun j x e=> ?_,fun i j hi hj e=>r.inj i j (ln▸hi) (ln▸hj) e,fun j hj=>r.out j (ln▸hj)⟩,
  fun b x e _ q=>(ne b (fun z=>q k hk z.symm)).trans e,fun b o e=> ?_⟩
 ·rw[ln];rw[List.getElem?_set]at e;by_cases q:k=j
  ·subst q;rw[if_pos rfl,if_pos hk]at e;obtain rfl:=qc e;exact⟨ob,hb,hr⟩
  ·rw[if_neg q]at e;obtain⟨oj,h1,h2⟩:=r.cells j x e;have hj:j<st.length:=(List.getElem?_eq_some_iff.mp e).1;exact⟨oj,(ne _ fun z=>q (r.inj j k hj hk z).symm).trans h1,h2⟩
 ·by_cases q:b=σ k
  ·exact⟨ob,by rw[q];exact hb⟩
  ·exact⟨o,(ne b q).trans e⟩
end
noncomputable def Ot(args:List V):Option (Nat×Nat):=cC (mE args) fun a=>cC (uV a.1) fun i=>cC (mE a.2) fun b=>cC (uV b.1) fun j=>fH (eB b.2) (some (i,j))
noncomputable def Yk(st:St)(args:List V):aA (V×St):=cy (Ot args) fun p=>dQ (i8 (Nat.beq p.1 p.2)) (cy (dictAt st p.1) fun fs=>cy (dictAt st p.2) fun gs=>dQ (rP (Ak (fs++gs))) (dQ (Nat.blt (len (fs++gs)) 400) (.ok (.none,cD st p.1 (.dict (fs++gs))))))
noncomputable def SQ:V→Bool:=fun v=>match v with
 |.bi b=>match b with
  |.Br=>true
  |_=>false
 |_=>false
theorem QU(h:SQ v=true):v=.bi .Br:=by
 induction v using V.casesOn with
 |bi b=>induction b using BI.casesOn with|Br=>rfl|_=>exact ft h
 |_=>exact ft h
noncomputable def SR(cx:Cx)(ev:Ev)(k:Nat)(fe:FE)(m:ai)(st:St)(o:Expr)(name:Str)(jA pos:Pos)(args:List Expr):aA (V×St):=dQ (ic args) (dQ (ur o) (dQ (Nat.beq jA.endLine pos.line) (dQ (Nat.blt (len args) 20) ((ev.e k fe m st o).bind fun p=>cy (oG cx p.2 p.1 name) fun f=>dQ (SQ f.1) ((wC ev k fe m args p.2).bind fun q=>Yk q.2 (f.2++q.1))))))
section
variable{st:St}
theorem Ou(r:aG I P σ n args ys)(h:Ot args=some p):ys=[.ref (σ p.1),.ref (σ p.2)]∧p.1<n∧p.2<n:=
 aK h fun a ha h=>aK h fun i hi h=>aK h fun b hb h=>aK h fun j hj h=>by
  obtain rfl:=qc (cW h);rw[iG ha,iG hb,cH (cP h)]at r;obtain⟨y1,y2,e,h1,h2⟩:=r.inv2;obtain⟨l1⟩:=uo h1 hi;obtain⟨l2⟩:=uo h2 hj;exact⟨e,l1,l2⟩
theorem Iu(H:au cx k A I σ st s)(h:dictAt st i=some fs):∃(ks:List (Str×Value)),KV I cx.P σ st.length fs ks∧((ks.map (·.1)).Nodup→s.heap.DictOf (strKind cx.prog cx.w) (σ i) ks):=by
 obtain⟨es,ep,g,q⟩:=H.rel.dictAt h;obtain⟨ks,p,v⟩:=KV.of cx.w cx.prog q;exact⟨ks,v,fun nd=>⟨_,es.toArray,ep,g,⟨rfl,rfl,rfl⟩,rfl,p6 cx.w rfl cx.prog q,p,nd⟩⟩
theorem Ov(H:au cx k A I σ st s)(hi:i<st.length)(hj:j<st.length)(SS:Nat.beq i j=false)(CQ:dictAt st i=some fs)(SV:dictAt st j=some gs)(CG:rP (Ak (fs++gs))=true)(ly:(fs++gs).length<400)
  (g:∀s',aM cx.P (fun _=>False) I σ st.length s.heap I σ (cD st i (.dict (fs++gs))) s'.heap→bw s s'→Q .none s'):wpAny cx.M A (call (.builtin "dict.update") [.ref (σ i),.ref (σ j)]) Q E s:=by
 obtain⟨Yl,v1,d1⟩:=Iu H CQ;obtain⟨Nu,v2,d2⟩:=Iu H SV;have va:=v2.append v1;have nd:((Yl++Nu).map (·.1)).Nodup:=by rw[va.keys,←EA];exact sN CG
 have Ym:=List.nodup_append.mp (List.map_append▸nd);have d1:=d1 Ym.1;have d2:=d2 Ym.2.1;have R0:σ i≠σ j:=fun z=>by
  rw[H.rel.inj i j hi hj z,Nat.beq_refl]at SS;exact tf SS
 have rN:(σ j==sysModules)=false:=beq_eq_false_iff_ne.mpr fun z=>by
  obtain⟨o,ho⟩:=H.base.tS;have:=H.rel.out _ hj;rw[z,ho]at this;exact ns this
 have Ny:Yl.length+Nu.length<400:=by
  have:=congrArg List.length va.keys;rw[List.length_map,List.length_map,List.length_append]at this;exact this▸ly
 refine call_meetsIn PySem.F.slot_dict_update d1.typeIs PySem.F.entry_dict_update (PySem.F.args_dict_update_2 _ _) (meets_dict_update (strKind cx.prog cx.w) (σ i) (σ j) R0 rN)
  ⟨Yl,Nu,d1,d2,(by rw[sizeLine_eq];clear d1 d2;lia),fun h' hd _ hs=> ?_⟩
 rw[merged_append_of_fresh _ _ nd]at hd;clear d1 d2 v1 v2 nd Ym CQ SV CG R0 rN Ny ly;obtain⟨o,es,ep,e1,⟨e2,e3,e4⟩,e5,e6,e7,e8⟩:=hd;have gC:dw I cx.P σ st.length (.dict (fs++gs)) o:=by
  have:=dw.dict (es:=es.toList) ep (KV.back cx.w rfl cx.prog e7 (fun e he=>e6 e (Array.mem_toList_iff.mp he)) va);obtain⟨c,d,dt,sl⟩:=o;dsimp only at e2 e3 e4 e5;subst e2 e3 e4 e5;exact this
 exact g {s with heap:=h'} (eK .. ▸aM.turn H.rel hi hs e1 gC) ⟨rfl,rfl,rfl⟩
theorem Vb(H:au cx k A I σ st s)(r:aG I cx.P σ st.length args ys)(g:Good cx.S cx.pre (Yk st args) (EV cx I σ st s Q)):wpAny cx.M A (call (.builtin "dict.update") ys) Q E s:=
 aN g fun p hp g=>by
  obtain⟨SS,g⟩:=bA g;refine aN g fun fs CQ g=>aN g fun gs SV g=> ?_;obtain⟨CG,g⟩:=bA g;obtain⟨ly,g⟩:=bA g;obtain⟨e,hi,hj⟩:=Ou r hp;rw[e];exact Ov H hi hj (u5 SS) CQ SV CG (lP ly) fun s' x sm=>g I σ _ s' x sm .none
theorem Vc(S:aU cx ev)(H:au cx k A I σ st s)(l:av cx.P fe m env I σ st.length s.heap)(g:Good cx.S cx.pre (SR cx ev k fe m st o name jA pos args) (EV cx I σ st s Q)):
  wpAny cx.M A (eval (.Call (.Attribute o name jA) args [] pos) env) Q E s:=by
 obtain⟨hp,g⟩:=bA g;obtain⟨hn,g⟩:=bA g;obtain⟨hl,g⟩:=bA g;obtain⟨ly,g⟩:=bA g;have KP:methodCallForm (args.length+([]:List Keyword).length) (backTo pos (starEach args env)) (backToKw pos (keywordEach [] env))=true:=by
  unfold methodCallForm;rw[yK hp];exact decide_eq_true (qz (lP ly) (by decide))
 have sF:methodCallPos true o env jA pos=pure pos:=by
  unfold methodCallPos;rw[qt hl,beq_self_eq_true];rfl
 rw[arm_eval_Call,p8 hn];refine wpAny_bind (S.ee H l g fun bG aZ aX s₁ jk iY aV aO aY bD b9 aQ=>wpAny_bind (wpAny_standAt (aN aQ fun f hf aQ=> ?_)));obtain⟨hc,aQ⟩:=bA aQ;unfold methodCall;rw[KP];refine wpAny_bind (wpAny_holding (zm aY b9 hf fun z zs rz EE t=>wpAny_bind (wpAny_of_eq sF ?_)));rw[QU hc]at rz;rw[show z=_ from rz.inv];have cO:au cx k A _ _ _ {s₁ with toks:=t}:=⟨aY.fit,aY.base,aY.rel⟩;refine callWith_of (P:=fun h=>True) (by rw[oV hp];rfl) (fun h _=>⟨.machine,.inr (.inl rfl),Looks.of_pure rfl⟩) ?_;refine oW hp (Dy S cO bD aQ fun dj bH bW br vs ys bQ cJ PK dX jQ fL=>⟨trivial, ?_⟩);exact Vb PK ((EE.mono bQ.le).append jQ) (Good.mono (fun v gv=>EV.into (EV.into (s':={s₁ with toks:=t}) gv aV aO) bQ cJ) fL)
end
theorem Ox{st st':St}{s0 s:Shared}{m:ai}{cs:List (Pos×Addr)}{E:dS}{Q:Flow→SP}(S:KS cx k A fe env T I0 jK n0 s0 I σ st s m cs)
  (Se:aU cx ev){o:Expr}{name:Str}{jA pos p:Pos}{args:List Expr}(hs:rS (nN (swapsWith (.Call (.Attribute o name jA) args [] pos) none p.line (iK fe.scope)))=true)(e:SR cx ev k fe m st o name jA pos args=.ok (.none,st'))
  (h:∀I' af s',KS cx k A fe env T I0 jK n0 s0 I' af st' s' m cs→f7 I I'→Q .next s'):wpAny cx.M A (exec (.Expr (.Call (.Attribute o name jA) args [] pos) p) env) Q E s:=by
 refine wpAny_Expr_any (Vc (Q:=fun _ s'=>Q .next s') Se S.H S.l ?_) (Hw S.l) (by rw[EF S.l];exact lz (qT hs));rw[e];intro I' af y s' x sm _;exact h I' af s' (S.go (x.weaken fun _ q=>q.elim) sm (S.l.ext x)) x.le.i
noncomputable def jh(i:Nat):Stmt:=match jU i with
 |some s=>s
 |none=>.Pass default
noncomputable def lA:Arguments:=match jU 9 with
 |some s=>match s with
  |.Assign _ v _=>match v with
   |.Lambda a _ _ _=>a
   |_=>default
  |_=>default
 |none=>default
noncomputable def lB:Expr:=match jU 9 with
 |some s=>match s with
  |.Assign _ v _=>match v with
   |.Lambda _ b _ _=>b
   |_=>default
  |_=>default
 |none=>default
noncomputable def lSc:Scope:=match jU 9 with
 |some s=>match s with
  |.Assign _ v _=>match v with
   |.Lambda _ _ sc _=>sc
   |_=>default
  |_=>default
 |none=>default
noncomputable def abn:Pos:=match jU 9 with
 |some s=>match s with
  |.Assign _ v _=>match v with
   |.Lambda _ _ _ p=>p
   |_=>default
  |_=>default
 |none=>default
noncomputable def lT:Expr:=match jU 9 with
 |some s=>match s with
  |.Assign ts _ _=>match ts with
   |[t]=>t
   |_=>default
  |_=>default
 |none=>default
noncomputable def ZO:Pos:=match jU 9 with
 |some s=>match s with
  |.Assign _ _ p=>p
  |_=>default
 |none=>default
noncomputable def za(i:Nat):Expr×Pos×List Expr×Pos×Pos:=match jU i with
 |some s=>match s with
  |.Expr e p=>match e with
   |.Call f a _ ps=>match f with
    |.Attribute o _ ap=>(o,ap,a,ps,p)
    |_=>(default,default,[],default,default)
   |_=>(default,default,[],default,default)
  |_=>(default,default,[],default,default)
 |none=>(default,default,[],default,default)
theorem Yn:jh 7=.Expr (.Call (.Attribute (za 7).1 "update" (za 7).2.1) (za 7).2.2.1 [] (za 7).2.2.2.1) (za 7).2.2.2.2:=kr
theorem Yo:jh 8=.Expr (.Call (.Attribute (za 8).1 "update" (za 8).2.1) (za 8).2.2.1 [] (za 8).2.2.2.1) (za 8).2.2.2.2:=kr
theorem Yp:jh 9=.Assign [lT] (.Lambda lA lB lSc abn) ZO:=kr
noncomputable def Iv(t:Expr):Bool:=match t with
 |.Starred _ _=>false
 |_=>true
theorem tK(h:Iv t=true):(assignEach [t] env).map (·.2)=[assign t env]:=by
 induction t using PySem.Expr.casesOn<;>first|rfl|exact ft h
noncomputable def mK(f0 f1 f2 f3 f4 f5:Addr):ai:=[("marks",.loc 0),("leave_or_done",.aL (.ref f0)),("made",.aL (.ref f1)),("toss",.aL (.ref f2)),("guarded",.aL (.ref f3)),("sending",.aL (.ref f4)),("settle",.aL (.ref f5))]
noncomputable def tL(f1 f2 f3 f4 f5:Addr):ai:=[("int",.aL (.ref f1)),("ivar",.aL (.ref f2)),("gvar",.aL (.ref f3)),("sending",.aL (.ref f4)),("settle",.aL (.ref f5)),("nil",.top 573)]
noncomputable def kR:ai:=[("array",.top 587),("values",.top 580),("seq",.top 594),("p_bind",.top 740),("p_value",.top 733)]
noncomputable def mh:ai:=[("p_alt",.top 747),("casein",.top 803),("matchp",.top 824),("matchq",.top 831)]
section
variable{p:Program}{w:World}{K:Frag}{k:Nat}{A:Around}{T:Addr}{I0 I:IM}{jK σ:Nat→Addr}{n0:Nat}{st:St}{s0 s:Shared}{m:ai}{cs:List (Pos×Addr)}{L:Addr}{E:dS}{Q:Flow→SP}
theorem Vd(S:KS (bN p w K) k A fF (fP L) T I0 jK n0 s0 I σ st s m cs)(g:iM (iB (bN p w K) (cX (bN p w K) 60) k fF m st x)=true)(hn:jb (iB (bN p w K) (cX (bN p w K) 60) k fF m st x))
  (e1:yW (iB (bN p w K) (cX (bN p w K) 60) k fF m st x)=.next)(e2:tw (iB (bN p w K) (cX (bN p w K) 60) k fF m st x)=m')(e3:lY (iB (bN p w K) (cX (bN p w K) 60) k fF m st x)=st')
  (h:∀I' af s',KS (bN p w K) k A fF (fP L) T I0 jK n0 s0 I' af st' s' m' cs→f7 I I'→Q .next s'):wpAny (model p w) A (exec x (fP L)) Q E s:=by
 refine m5 (eY (mV p w K) 60) S.H S.l (w9 (S:=fun _ _ _ _ _=>False) (pre:=aI) g hn ?_).out;rw[e1,e2,e3];intro I' af f s' x sm ro;obtain⟨ro,l'⟩:=ro;obtain rfl:=ro;exact h I' af s' (S.go x sm l') x.le.i
theorem Ve(S:KS (bN p w K) (k+20) A fF (fP L) T I0 jK n0 s0 I σ [.list [] []] s (mK f0 f1 f2 f3 f4 f5) [(iZ 0,c0),(iZ 1,c1),(iZ 2,c2),(iZ 3,c3),(iZ 4,c4),(iZ 5,c5)])(kb:KB I 1265 T)
  (h:∀I' af s' f6 y cs',KS (bN p w K) (k+20) A fF (fP L) T I0 jK n0 s0 I' af [.list [] [],.dict (tL f1 f2 f3 f4 f5++kR++mh++[(("case":Str),.aL (.ref f6))]),.dict kR,.dict mh] s' (mK f0 f1 f2 f3 f4 f5++[(("found":Str),.loc 1)]) cs'→f7 I I'→cZ I' f6 AV []→y=.ref (af 1)→Q (.ret y) s'):
  wpAny (model p w) A (execs [jh 6,jh 7,jh 8,jh 9,jh 10] (fP L)) Q E s:=by
 refine wpAny_execs_cons (Vd (st':=[.list [] [],.dict (tL f1 f2 f3 f4 f5)]) (m':=mK f0 f1 f2 f3 f4 f5++[(("found":Str),.loc 1)]) S kr (gY kr) kr kr kr fun I1 jt s1 S1 j1=> ?_);rw[Yn,Yo];refine wpAny_execs_cons (Ox (st':=[.list [] [],.dict (tL f1 f2 f3 f4 f5++kR),.dict kR]) S1 (eY (mV p w K) 60) kr kr fun I2 fG s2 S2 j2=> ?_);refine wpAny_execs_cons (Ox (st':=[.list [] [],.dict (tL f1 f2 f3 f4 f5++kR++mh),.dict kR,.dict mh]) S2 (eY (mV p w K) 60) kr kr fun I3 kg s3 S3 j3=> ?_);have k3:f7 I I3:=fun b o e=>j3 b o (j2 b o (j1 b o e));rw[Yp];refine wpAny_execs_cons (wpAny_Assign_stores (kla_eval (by rfl) (Yd S3 rfl (kb.mono k3) (clos:=[]) kr rfl kr fun I4 s4 f6 c6 oc vs t pm sG S4 j4 g1 g2 g3 g4=> ?_)) kr kr);have C6:cZ I4 f6 AV []:=⟨_,_,c6,oc,vs,t,g1,rfl,rfl,⟨kr,kr,kr,rfl,rfl,rfl,rfl,kr⟩,rfl,g2,g3,g4,rfl⟩;have e2:tw (xV (bN p w K) (cX (bN p w K) 60) (k+20) fF (mK f0 f1 f2 f3 f4 f5++[(("found":Str),.loc 1)]) [.list [] [],.dict (tL f1 f2 f3 f4 f5++kR++mh),.dict kR,.dict mh] lT (.aL (.ref f6)))=mK f0 f1 f2 f3 f4 f5++[(("found":Str),.loc 1)]:=kr;have e3:lY (xV (bN p w K) (cX (bN p w K) 60) (k+20) fF (mK f0 f1 f2 f3 f4 f5++[(("found":Str),.loc 1)]) [.list [] [],.dict (tL f1 f2 f3 f4 f5++kR++mh),.dict kR,.dict mh] lT (.aL (.ref f6)))=[.list [] [],.dict (tL f1 f2 f3 f4 f5++kR++mh++[(("case":Str),.aL (.ref f6))]),.dict kR,.dict mh]:=kr;have e1:yW (xV (bN p w K) (cX (bN p w K) 60) (k+20) fF (mK f0 f1 f2 f3 f4 f5++[(("found":Str),.loc 1)]) [.list [] [],.dict (tL f1 f2 f3 f4 f5++kR++mh),.dict kR,.dict mh] lT (.aL (.ref f6)))=.next:=kr;rw[tK (t:=lT) kr];refine Mu (Q:=fun f s'=>match f with|.next=>wpAny (model p w) A (execs [jh 10] (fP L)) Q E s'|f=>Q f s') (ev:=cX (bN p w K) 60) (v:=.aL (.ref f6)) (eY (mV p w K) 60) S4.H S4.l (.aL _) (w9 (S:=fun _ _ _ _ _=>False) (pre:=aI) kr (gY kr) ?_).out;rw[e1,e2,e3];intro I5 Gg f s5 x sm ro;obtain⟨ro,l5⟩:=ro;obtain rfl:=ro;have S5:=S4.go x sm l5;have r2:lY (iB (bN p w K) (cX (bN p w K) 60) (k+20) fF (mK f0 f1 f2 f3 f4 f5++[(("found":Str),.loc 1)]) [.list [] [],.dict (tL f1 f2 f3 f4 f5++kR++mh++[(("case":Str),.aL (.ref f6))]),.dict kR,.dict mh] (jh 10))=[.list [] [],.dict (tL f1 f2 f3 f4 f5++kR++mh++[(("case":Str),.aL (.ref f6))]),.dict kR,.dict mh]:=kr;have r1:yW (iB (bN p w K) (cX (bN p w K) 60) (k+20) fF (mK f0 f1 f2 f3 f4 f5++[(("found":Str),.loc 1)]) [.list [] [],.dict (tL f1 f2 f3 f4 f5++kR++mh++[(("case":Str),.aL (.ref f6))]),.dict kR,.dict mh] (jh 10))=.ret (.loc 1):=kr;have r3:tw (iB (bN p w K) (cX (bN p w K) 60) (k+20) fF (mK f0 f1 f2 f3 f4 f5++[(("found":Str),.loc 1)]) [.list [] [],.dict (tL f1 f2 f3 f4 f5++kR++mh++[(("case":Str),.aL (.ref f6))]),.dict kR,.dict mh] (jh 10))=mK f0 f1 f2 f3 f4 f5++[(("found":Str),.loc 1)]:=kr;refine wpAny_execs_cons (m5 (eY (mV p w K) 60) S5.H S5.l (w9 (S:=fun _ _ _ _ _=>False) (pre:=aI) kr (gY kr) ?_).out);rw[r1,r2,r3];intro I6 wc f s6 x6 Oz ro;obtain⟨ro,l6⟩:=ro;obtain⟨_,rfl,hy⟩:=ro;have S6:=S5.go x6 Oz l6;exact(uf hy).1▸h I6 wc s6 f6 (.ref (wc 1)) _ S6 (fun b o e=>x6.le.i b o (x.le.i b o (j4 b o (k3 b o e)))) (C6.mono fun b o e=>x6.le.i b o (x.le.i b o e)) rfl
end
theorem cZ.rep(h:cZ I f fl clos)(r:iX I P σ n free clos):aq I P σ n (.jy fl free) (.ref f):=by
 obtain⟨o,fd,c,co,vs,t,h1,h2,h3,h4,h5,h6,h7,h8,rfl⟩:=h;exact .jy h1 h2 h3 h4 h5 h6 h7 h8 r
theorem Vf(hl:l<n')(gm:I cm=some om)(dm:om.data=.cell (some (.ref (af l))))(gl:I cl=some ol)(dl:ol.data=.cell (some (.ref f0)))
  (C0:cZ I f0 (dN "leave_or_done" 0) [])(C1:cZ I f1 (dN "made" 1) [(("marks":Str),cm),(("leave_or_done":Str),cl)])(C2:cZ I f2 (dN "toss" 2) [(("leave_or_done":Str),cl)])(C3:cZ I f3 (dN "guarded" 3) [(("marks":Str),cm),(("leave_or_done":Str),cl)])
  (C4:cZ I f4 (dN "sending" 4) [(("marks":Str),cm),(("leave_or_done":Str),cl)])(C5:cZ I f5 (dN "settle" 5) [(("marks":Str),cm)])(C6:cZ I f6 AV [])
  (r:bF I P σ n (tL f1 f2 f3 f4 f5++kR++mh++[(("case":Str),.aL (.ref f6))]) es):bF I P af n' (zH l) es:=by
 have rl:aq I P af n' Ka (.ref f0):=C0.rep .nil;have rm:aq I P af n' (.loc l) (.ref (af l)):=.loc l hl;have QV:iX I P af n' (DJ l) [(("marks":Str),cm),(("leave_or_done":Str),cl)]:=.cons gm dm rm (.cons gl dl rl .nil);have lo:iX I P af n' [(("leave_or_done":Str),Ka)] [(("leave_or_done":Str),cl)]:=.cons gl dl rl .nil;have mk:iX I P af n' [(("marks":Str),V.loc l)] [(("marks":Str),cm)]:=.cons gm dm rm .nil;exact bR (j8 (C1.rep QV)) (bR (j8 (C2.rep lo)) (bR (j8 (C3.rep QV)) (bR (j8 (C4.rep QV)) (bR (j8 (C5.rep mk)) (bR (fU) (bR (fU) (bR (fU) (bR (fU) (bR (fU) (bR (fU) (bR (fU) (bR (fU) (bR (fU) (bR (fU) (bR (j8 (C6.rep .nil)) (LG)))))))))))))))) es r
noncomputable def ju(f1 f2 f3 f4 f5 f6:Addr):List (Str×V):=tL f1 f2 f3 f4 f5++kR++mh++[(("case":Str),.aL (.ref f6))]
theorem Vg(r:bF I P σ n (ju f1 f2 f3 f4 f5 f6) es):bF I' P af n' (ju f1 f2 f3 f4 f5 f6) es:=by
 exact bR (j8 (.aL _)) (bR (j8 (.aL _)) (bR (j8 (.aL _)) (bR (j8 (.aL _)) (bR (j8 (.aL _)) (bR (fU) (bR (fU) (bR (fU) (bR (fU) (bR (fU) (bR (fU) (bR (fU) (bR (fU) (bR (fU) (bR (fU) (bR (j8 (.aL _)) (LG)))))))))))))))) es r
def pe(I:IM)(a f1 f2 f3 f4 f5 f6:Addr):Prop:=∃f0 cm cl om ol,I cm=some om∧om.data=.cell (some (.ref a))∧I cl=some ol∧ol.data=.cell (some (.ref f0))∧
 cZ I f0 (dN "leave_or_done" 0) []∧cZ I f1 (dN "made" 1) [("marks",cm),("leave_or_done",cl)]∧cZ I f2 (dN "toss" 2) [("leave_or_done",cl)]∧cZ I f3 (dN "guarded" 3) [("marks",cm),("leave_or_done",cl)]∧
 cZ I f4 (dN "sending" 4) [("marks",cm),("leave_or_done",cl)]∧cZ I f5 (dN "settle" 5) [("marks",cm)]∧cZ I f6 AV []
theorem pe.mono(h:pe I a f1 f2 f3 f4 f5 f6)(i:f7 I I'):pe I' a f1 f2 f3 f4 f5 f6:=by
 obtain⟨f0,cm,cl,om,ol,h1,h2,h3,h4,C0,C1,C2,C3,C4,C5,C6⟩:=h;exact⟨f0,cm,cl,om,ol,i _ _ h1,h2,i _ _ h3,h4,C0.mono i,C1.mono i,C2.mono i,C3.mono i,C4.mono i,C5.mono i,C6.mono i⟩
theorem pe.tell(h:pe I (σ l) f1 f2 f3 f4 f5 f6)(hl:l<n)(r:dw I P σ n (.dict (ju f1 f2 f3 f4 f5 f6)) ob):dw I P σ n (.dict (zH l)) ob:=by
 obtain⟨f0,cm,cl,om,ol,h1,h2,h3,h4,C0,C1,C2,C3,C4,C5,C6⟩:=h;replace r:=r.inv;induction r using kW.casesOn with|mk ep r=>exact .dict ep (Vf hl h1 h2 h3 h4 C0 C1 C2 C3 C4 C5 C6 r)
theorem aM.seen(x:aM P X I σ n h I' af st' h')(n1:I' b=none)(g:h'.get? b=some o)(d:h.get? b=none)(ne:∀j,j<st'.length→af j≠b):aM P X I σ n h (dW I' b o) af st' h':=by
 have i1:f7 I' (dW I' b o):=lO o n1;refine⟨⟨fun c y e=>i1 c y (x.le.i c y e),x.le.s,x.le.n⟩,fun c y e=> ?_,x.new,⟨fun c y e=> ?_,fun k y e=> ?_,x.rel.inj,fun k hk=> ?_⟩,x.keep,x.alive⟩
 ·rcases eV e with⟨q,_⟩|⟨_,e⟩
  ·exact .inr (q▸d)
  ·exact x.fresh c y e
 ·rcases eV e with⟨q,q2⟩|⟨_,e⟩
  ·rw[q,q2];exact g
  ·exact x.rel.sub c y e
 ·obtain⟨ob,h1,h2⟩:=x.rel.cells k y e;exact⟨ob,h1,h2.mono ⟨i1,fun _ _=>rfl,qf _⟩⟩
 ·exact(if_neg (ne k hk)).trans (x.rel.out k hk)
theorem aM.back{σ kg:Nat→Addr}{st OA:St}{h h3:Heap}{l:Nat}{F:ai}(R:cF P I σ st h)(hl:st[l]? =some (.list [] []))(x:aM P X I (fun _=>σ l) 1 h I3 kg OA h3)(e0:OA[0]? =some (.list [] []))(e1:OA[1]? =some (.dict F))
  (any:∀af n' es,bF I3 P kg OA.length F es→bF I3 P af n' F es)(nX:∀b o,h.get? b=some o→b≠T→¬X b)(sT:∀j,j<st.length→σ j≠T):aM P (fun b=>b=T) I σ st.length h I3 (gj σ st.length (kg 1)) (st++[.dict F]) h3:=by
 have ln:(st++[AO.dict F]).length=st.length+1:=List.length_append;have OB:l<st.length:=(List.getElem?_eq_some_iff.mp hl).1;have l3:1<OA.length:=(List.getElem?_eq_some_iff.mp e1).1;have s0:kg 0=σ l:=x.le.s 0 Nat.one_pos;have dead:h.get? (kg 1)=none:=x.new 1 (qf _) l3;have CI:∀b o,h.get? b=some o→b≠T→σ l≠b→h3.get? b=some o:=fun b o e q r=>x.keep b o e (nX b o e q) fun _ _=>r;have ne:∀j,j<st.length→σ j≠kg 1:=fun j hj q=>by
  obtain⟨o,e⟩:=R.live hj;rw[q,dead]at e;exact nn e
 have sg:∀j,j<st.length→gj σ st.length (kg 1) j=σ j:=fun j hj=>jz _ hj;have sz:gj σ st.length (kg 1) st.length=kg 1:=eH ..;have le:Le I I3 σ (gj σ st.length (kg 1)) st.length (st.length+1):=⟨x.le.i,sg,qK _⟩;have or:∀{j},j<(st++[AO.dict F]).length→j<st.length∨j=st.length:=fun hj=>Nat.lt_succ_iff_lt_or_eq.mp (Nat.lt_of_lt_of_eq hj ln);refine⟨ln▸le,x.fresh,fun j a b=> ?_,⟨x.rel.sub,fun j o e=> ?_,fun i j hi hj e=> ?_,fun j hj=> ?_⟩,fun b o e hx hk=>CI b o e hx (hk l OB),x.alive⟩
 ·rcases or b with q|q
  ·exact absurd q (Nat.not_lt_of_le a)
  ·rw[q,sz];exact dead
 ·rw[ln];rcases or (List.getElem?_eq_some_iff.mp e).1 with a|a
  ·rw[qB a]at e;rw[sg j a];by_cases q:j=l
   ·rw[q,hl]at e;rw[q,←qc e,←s0];obtain⟨ob,g,r⟩:=x.rel.cells 0 _ e0;refine⟨ob,g, ?_⟩;replace r:=r.inv;induction r using j7.casesOn with|mk ep hp r=>rw[show _=[]from r.inv]at*;exact .list ep hp .nil
   ·obtain⟨ob,g,r⟩:=R.cells j o e;exact⟨ob,CI _ _ g (sT j a) (fun z=>q (R.inj l j OB a z).symm),r.mono le⟩
  ·rw[a,qx (qf _),Nat.sub_self]at e;rw[a,sz,←qc e];obtain⟨ob,g,r⟩:=x.rel.cells 1 _ e1;refine⟨ob,g, ?_⟩;replace r:=r.inv;induction r using kW.casesOn with|mk ep r=>exact .dict ep (any _ _ _ r)
 ·rcases or hi with a|a<;>rcases or hj with b|b
  ·rw[sg i a,sg j b]at e;exact R.inj i j a b e
  ·rw[b,sg i a,sz]at e;exact absurd e (ne i a)
  ·rw[a,sg j b,sz]at e;exact absurd e.symm (ne j b)
  ·rw[a,b]
 ·rcases or hj with a|a
  ·rw[sg j a];obtain⟨o,e⟩:=R.live a;induction q:I3 (σ j)using qe with
   |none=>rfl
   |some o'=>
    rcases x.fresh _ _ q with z|z
    ·rw[R.out j a]at z;exact nn z
    ·rw[e]at z;exact ns z
  ·rw[a,sz];exact x.rel.out 1 l3
theorem Yq(r:aq I P σ n (.loc l) y):y=.ref (σ l):=by
 obtain⟨_⟩:=r.inv;rfl
theorem KS.two{p:Program}{w:World}{K:Frag}{k:Nat}{A:Around}{T:Addr}{I0 I:IM}{jK σ:Nat→Addr}{n0:Nat}{st:St}(S:KS (bN p w K) k A fF (fP s0.heap.objs.size) T I0 jK n0 s0 I σ st s m cs)(rQ:∀b,aF (fP s0.heap.objs.size) b→s0.heap.get? b=none)
  (m1:lk ("marks":Str) m=some (.loc 0))(m2:lk ("leave_or_done":Str) m=some (.aL (.ref f0))):∃om ol I',om.data=.cell (some (.ref (σ 0)))∧ol.data=.cell (some (.ref f0))∧I' (s0.heap.objs.size+1)=some om∧I' (s0.heap.objs.size+2)=some ol∧f7 I I'∧aM w.params (fun b=>b=T∨aF (fP s0.heap.objs.size) b) I0 jK n0 s0.heap I' σ st s.heap:=by
 have L1:(fP s0.heap.objs.size).cells.lookup ("marks":Str)=some (s0.heap.objs.size+1):=kr;have L2:(fP s0.heap.objs.size).cells.lookup ("leave_or_done":Str)=some (s0.heap.objs.size+2):=kr;have K1:(fP s0.heap.objs.size).kindOf "marks"=some .cell:=kr;have K2:(fP s0.heap.objs.size).kindOf "leave_or_done"=some .cell:=kr;obtain⟨a1,y1,b1,⟨om,gm,dm⟩,r1⟩:=S.l.cell _ _ m1 K1;obtain⟨a2,y2,b2,⟨ol,gl,dl⟩,r2⟩:=S.l.cell _ _ m2 K2;obtain rfl:=qc (L1.symm.trans b1);obtain rfl:=qc (L2.symm.trans b2);have O1:aF (fP s0.heap.objs.size) (s0.heap.objs.size+1):=.inr ⟨_,K1,L1⟩;have O2:aF (fP s0.heap.objs.size) (s0.heap.objs.size+2):=.inr ⟨_,K2,L2⟩;have x1:=S.x.seen (S.l.apart _ O1).1 gm (rQ _ O1) fun j hj=>(S.l.apart _ O1).2 j hj;have n2:dW I (s0.heap.objs.size+1) om (s0.heap.objs.size+2)=none:=(if_neg (Nat.ne_of_gt (qF _))).trans (S.l.apart _ O2).1;have x2:=x1.seen n2 gl (rQ _ O2) fun j hj=>(S.l.apart _ O2).2 j hj;have i2:f7 (dW I (s0.heap.objs.size+1) om) (dW (dW I (s0.heap.objs.size+1) om) (s0.heap.objs.size+2) ol):=lO ol n2;exact⟨om,ol,_,Yq r1▸dm,(r2.inv:y2=_)▸dl,i2 _ _ (kX ..),kX ..,fun b o e=>i2 b o (lO om (S.l.apart _ O1).1 b o e),x2⟩
section
variable{K:Frag}{st:St}
theorem KQ(H:au (bN p w K) (k+21) A I σ st s)(hl:st[l]? =some (.list [] []))(kb:KB I 1265 T)(iT:I T=none)(sT:∀j,j<st.length→σ j≠T)(tab:s.heap.get? T=some (tabObj #[]))
  (h:∀I' af s' y f1 f2 f3 f4 f5 f6,aM w.params (fun b=>b=T) I σ st.length s.heap I' af (st++[.dict (ju f1 f2 f3 f4 f5 f6)]) s'.heap→bw s s'→pe I' (af l) f1 f2 f3 f4 f5 f6→aq I' w.params af (st++[AO.dict (ju f1 f2 f3 f4 f5 f6)]).length (.loc st.length) y→(∃ps,s'.heap.get? T=some (tabObj ps))→Q y s'):
  wpAny (model p w) A (call (.ref 1266) [.ref (σ l)]) Q E s:=by
 have OB:l<st.length:=(List.getElem?_eq_some_iff.mp hl).1;have H1:au (bN p w K) (k+20+1) A I (fun _=>σ l) [AO.list [] []] s:=⟨H.fit,H.base,JT H.rel hl rfl⟩;obtain⟨⟨o,h1,h2,h3⟩,hc,gl,bl,cl,df⟩:=H.base.fns 1266 nQ [] (ri (a:=1266) kr);refine zN (E:=E) (m:=[(("marks":Str),.loc 0)]) (body:=jJ nQ) H1 h1 h3 gl bl hc cl kr (.cons (aq.loc (σ:=fun _=>σ l) 0 (by show 0<1;decide)) .nil) kr kr kr fun env s₁ he rQ kp sm hf lo E'=> ?_;have he:env=fP s.heap.objs.size:=by
  rcases he with⟨q,_⟩|⟨_,q⟩
  ·have:gJ nQ.scope.names=false:=kr;rw[this]at q;exact ft q
  ·exact q
 subst he;have ex:=aM.grow H1.rel kp;have oT:¬aF (fP s.heap.objs.size) T:=fun q=>by rw[rQ T q]at tab;exact nn tab
 have S1:KS (bN p w K) (k+20) (A.deeper (fP s.heap.objs.size)) fF (fP s.heap.objs.size) T I (fun _=>σ l) 1 s I (fun _=>σ l) [.list [] []] s₁ [(("marks":Str),.loc 0)] []:=
  ⟨⟨hf,H.base,ex.rel⟩,lo,ex.weaken fun _ q=>q.elim,sm,kp _ _ tab,iT,fun _ _=>sT l OB,oT⟩
 refine Yj (rest:=[jh 6,jh 7,jh 8,jh 9,jh 10]) kr S1 kb fun I2 s2 f0 f1 f2 f3 f4 f5 c0 c1 c2 c3 c4 c5 S2 j2 C0 C1 C2 C3 C4 C5=> ?_;refine@Ve p w K k (A.deeper (fP s.heap.objs.size)) T I I2 (fun _=>σ l) (fun _=>σ l) 1 s s2 s.heap.objs.size _ _ f0 f1 f2 f3 f4 f5 c0 c1 c2 c3 c4 c5 S2 (kb.mono j2) ?_;intro I3 kg s3 f6 y cs3 S3 j3 C6 hy;subst hy;obtain⟨om,ol,I4,dm,dl,em,el,i4,x4⟩:=S3.two rQ kr kr;have nX:∀b o,s.heap.get? b=some o→b≠T→¬(b=T∨aF (fP s.heap.objs.size) b):=fun b o e q z=>z.elim q fun z=>by rw[rQ b z]at e;exact nn e
 have X:=aM.back H.rel hl x4 rfl rfl (fun af n' es r=>Vg r) nX sT;have i3:∀{f fl cl},cZ I2 f fl cl→cZ I4 f fl cl:=fun c=>(c.mono j3).mono i4;have rl:aq I4 w.params (gj σ st.length (kg 1)) (st++[AO.dict (ju f1 f2 f3 f4 f5 f6)]).length (.loc st.length) (.ref (gj σ st.length (kg 1) st.length)):=.loc st.length (by rw[List.length_append];exact qF _);rw[eH]at rl;refine h I4 _ s3 _ f1 f2 f3 f4 f5 f6 X S3.sm ⟨f0,s.heap.objs.size+1,s.heap.objs.size+2,om,ol,em, ?_,el,dl,i3 C0,i3 C1,i3 C2,i3 C3,i3 C4,i3 C5,C6.mono i4⟩ rl ⟨_,S3.tab⟩;rw[jz _ OB,dm,show kg 0=σ l from S3.x.le.s 0 Nat.one_pos]
end
theorem av.abo(l:av P fe m env I σ n h)(hf:fe.free=[])
  (x:aM P X I σ n h I' af st' h')(hX:∀b,aF env b→¬X b):av P fe m env I' af st'.length h':=by
 have own:∀b,aF env b→∀o,h.get? b=some o→h'.get? b=some o:=fun b ob o e=>x.keep b o e (hX b ob) (l.apart b ob).2;have live:∀b,aF env b→∃o,h.get? b=some o:=by
  rintro b (rfl|⟨y,hy,hc⟩)
  ·obtain⟨mm,⟨o,_,_,ho,_⟩,_⟩:=l.ns;exact⟨o,ho⟩
  ·obtain⟨c,v,h1,o,ho,_⟩:=l.there y hy;rw[hc]at h1;obtain rfl:=qc h1;exact⟨o,ho⟩
 have zV:∀b o,h.get? b=some o→(∀k,k<n→σ k≠b)→∀k,k<st'.length→af k≠b:=fun b o hb hk k nI=>by
  by_cases q:k<n
  ·rw[x.le.s k q];exact hk k q
  ·intro z;have:=x.new k (qC q) nI;rw[z,hb]at this;cases this
 refine⟨l.scope,l.kind,l.glob,l.blt, ?_,fun y v e hk=> ?_,fun y hk=> ?_,fun y v e hk=> ?_,fun b hb=>⟨?_,(by obtain⟨o,ho⟩:=live b hb;exact zV b o ho (l.apart b hb).2)⟩,l.ne,l.inj⟩
 ·obtain⟨mm,⟨o,es,ep,ho,r⟩,h2⟩:=l.ns;exact⟨mm,⟨o,es,ep,own _ (.inl rfl) o ho,r⟩,fun y v e hk=>(by obtain⟨z,a,b⟩:=h2 y v e hk;exact⟨z,a,b.mono x.le⟩)⟩
 ·obtain⟨c,z,h1,h2,h3⟩:=l.cell y v e hk;exact⟨c,z,h1,f9 h2 (own c (.inr ⟨y,hk,h1⟩)),h3.mono x.le⟩
 ·obtain⟨c,z,h1,h2⟩:=l.there y hk;exact⟨c,z,h1,f9 h2 (own c (.inr ⟨y,hk,h1⟩))⟩
 ·rw[hf]at e;exact nn e
 ·induction q:I' b using qe with
  |none=>rfl
  |some o=>
   rcases x.fresh b o q with z|z
   ·rw[(l.apart b hb).1]at z;exact nn z
   ·obtain⟨o',ho⟩:=live b hb;rw[z]at ho;exact nn ho
section
variable{st:St}
theorem Iw(b:iJ cx I)(rf:aq I cx.P σ n f y)(hc:oK cx f=true)(hh:Heap)(hi:∀b o,I b=some o→hh.get? b=some o):∃kk,(kk=Keeper.frame∨kk=Keeper.machine∨kk=Keeper.boundFrame)∧Looks cx.M hh (keeperOf y) kk:=by
 have r:=rf.inv;induction f using V.casesOn with
 |bi=>rw[show y=_ from r];exact⟨.machine,.inr (.inl rfl),Looks.of_pure rfl⟩
 |ty=>rw[show y=_ from r];exact⟨.machine,.inr (.inl rfl),Looks.of_pure rfl⟩
 |top=>rw[show y=_ from r];exact keeps_K (List.all_eq_true.mp b.tabs.keeps _ (uX hc)) hh (b.zU hi)
 |jy=>
  induction r using rG.casesOn with
  |mk h1 wG hd hf Cs DU DV hq rc=>
   refine⟨.frame,.inl rfl,(Looks.ld (part:=none) (hi _ _ h1)).andThen ?_⟩;rw[hd];exact .now
 |_=>exact ft hc
theorem vF(hp:ic es=true)(hc:oK cx f=true)(H:au cx k A I σ st s)(rf:aq I cx.P σ st.length f y)
  (h:wpAny cx.M A (spliced (backTo pos (starEach es env))) (fun vs s₁=>(∀b o,I b=some o→s₁.heap.get? b=some o)∧wpAny cx.M A (call y ([]++vs)) Q E s₁) E s):wpAny cx.M A (callWith pos y [] (backTo pos (starEach es env)) []) Q E s:=by
 exact callWith_of (P:=fun h=>∀b o,I b=some o→h.get? b=some o) (by rw[oV hp];rfl) (Iw H.base rf hc) (oW hp h)
theorem kD(Sd:aU cx ev)(H:au cx k A I σ st s)(l:av cx.P fe m env I σ st.length s.heap)(g:iM (ev.e k fe m st x)=true)(hn:jb (ev.e k fe m st x))(e1:rY (ev.e k fe m st x)=v)(e2:rZ (ev.e k fe m st x)=st')
  (h:∀I' af s' y,aM cx.P (fun _=>False) I σ st.length s.heap I' af st' s'.heap→bw s s'→au cx k A I' af st' s'→av cx.P fe m env I' af st'.length s'.heap→aq I' cx.P af st'.length v y→Q y s'):wpAny cx.M A (eval x env) Q E s:=by
 refine Sd.e H l (MT (S:=cx.S) (pre:=cx.pre) g hn ?_).out;rw[e1,e2];intro I' af y s' x sm r;exact h I' af s' y x sm (H.go x) (l.ext x) r
end
noncomputable def vG(e:Expr):Pos:=match e with
 |.Call _ _ _ p=>p
 |_=>default
noncomputable def mW(e:Expr):Expr:=match e with
 |.Call f _ _ _=>f
 |_=>default
noncomputable def sH(e:Expr):List Expr:=match e with
 |.Call _ a _ _=>a
 |_=>[]
noncomputable def zO(l:List Expr)(i:Nat):Expr:=match di l i with
 |some e=>e
 |none=>default
noncomputable def Yr(s:Stmt):Expr:=match s with
 |.Assign _ v _=>v
 |_=>default
noncomputable def Gh(s:Stmt):Expr:=match s with
 |.Assign ts _ _=>match ts with
  |[t]=>t
  |_=>default
 |_=>default
noncomputable def Ys(s:Stmt):Pos:=match s with
 |.Assign _ _ p=>p
 |_=>default
noncomputable def OC:Expr:=Yr (fy 2)
noncomputable def Yt:Expr:=zO (sH OC) 0
noncomputable def OD:Expr:=zO (sH OC) 1
noncomputable def OE:Expr:=zO (sH OC) 2
theorem ZP:fy 2=.Assign [Gh (fy 2)] (.Call (mW OC) [Yt,.Call (mW OD) (sH OD) [] (vG OD),OE] [] (vG OC)) (Ys (fy 2)):=kr
section
variable{P:Params}{st:St}
theorem cF.alter(r:cF P I σ st h)(e:st[j]? =some o)(hr:∀ob,h.get? (σ j)=some ob→dw I P σ st.length o ob→dw I P σ st.length o' ob):cF P I σ (st.set j o') h:=by
 have ln:(st.set j o').length=st.length:=by simp
 refine⟨r.sub,fun i x q=> ?_,fun a b ha hb=>r.inj a b (ln▸ha) (ln▸hb),fun i hi=>r.out i (ln▸hi)⟩;rw[ln];rw[List.getElem?_set]at q;by_cases z:j=i
 ·subst z;rw[if_pos rfl,if_pos (List.getElem?_eq_some_iff.mp e).1]at q;obtain rfl:=qc q;obtain⟨ob,g,gC⟩:=r.cells j o e;exact⟨ob,g,hr ob g gC⟩
 ·rw[if_neg z]at q;exact r.cells i x q
theorem Bf(g:I a=some (dictOf [] ep))(hs:a≠sysModules)(q:aq I P σ n (.aL (.ref a)) x):aq I P σ n (.fB []) x:=by
 cases q.inv
 exact .fB (es:=[]) (beq_eq_false_iff_ne.mpr hs) g .nil
end
noncomputable def pQ(a b c d t ln made out main:V):AO:=.dict [("natives",a),("prelude",b),("read",.none),("most",.int 20000),("taken",t),("last_number",ln),
 ("last_ident",.int 8),("symbol_idents",c),("made",made),("version",.int 0),("const_version",.int 0),("globals",d),("out",out),("is_ready",.bool true),("main",main)]
theorem Gi(ga:∃e,I a=some (dictOf [] e))(gb:∃e,I b=some (dictOf [] e))(gc:∃e,I c=some (dictOf [] e))(gd:∃e,I d=some (dictOf [] e))
  (na:a≠sysModules)(nb:b≠sysModules)(nc:c≠sysModules)(nd:d≠sysModules)(h:dw I P σ n (pQ (.aL (.ref a)) (.aL (.ref b)) (.aL (.ref c)) (.aL (.ref d)) t ln mk out main) ob):dw I P σ n (pQ (.fB []) (.fB []) (.fB []) (.fB []) t ln mk out main) ob:=by
 obtain⟨ea,ga⟩:=ga;obtain⟨eb,gb⟩:=gb;obtain⟨ec,gc⟩:=gc;obtain⟨ed,gd⟩:=gd;induction h.inv using kW.casesOn with
 |mk ep r=>exact .dict ep (bR (fun _=>Bf ga na) (bR (fun _=>Bf gb nb) (bR (fun _ h=>h) (bR (fun _ h=>h) (bR (fun _ h=>h) (bR (fun _ h=>h) (bR (fun _ h=>h) (bR (fun _=>Bf gc nc) (bR (fun _ h=>h) (bR (fun _ h=>h) (bR (fun _ h=>h) (bR (fun _=>Bf gd nd) (fun _ r=>r)))))))))))) _ r)
section
variable{cx:Cx}{st:St}
theorem Gj(l:av cx.P fe m env I σ st.length s.heap)(hs:rS (nN (swapsWithSole [t] v p.line (iK fe.scope)))=true)(ho:nN (swappedStores [t] v (iK fe.scope))=some none)(hn:Iv t=true)
  (h:wpAny cx.M A (eval v env) (fun y s₁=>wpAny cx.M A (assign t env y) (fun _=>Q .next) E s₁) E s):wpAny cx.M A (exec (.Assign [t] v p) env) Q E s:=by
 have hs':swapsWithSole [t] v p.line env=pure false:=by rw[rR l];exact lz (qT hs)
 have Wm:swappedStores [t] v env=pure none:=by rw[Al l];exact lz ho
 refine wpAny_Assign_stores (wpAny_mono h (fun y s₁ PD=> ?_) fun _ _ x=>x) hs' Wm;rw[tK hn];exact PD
end
section
variable{K:Frag}
noncomputable abbrev OF(p:Program)(w:World)(K:Frag)(k:Nat)(m:ai):aA (V×St):=(cX (bN p w K) 200).e (k+100) bP m jg Yt
noncomputable def woL(r:aA (V×St)):List (Option AO):=match rZ r with
 |st=>[di st 0,di st 1,di st 2,di st 3,di st 4,di st 5,di st 6,di st 7,di st 8]
theorem ZQ:(iM (OF p w K k m),rY (OF p w K k m),woL (OF p w K k m))=(true,.loc 4,[some (.list [] []),some (.list [] []),some (.dict []),some (pQ (.loc 2) (.loc 5) (.loc 6) (.loc 8) (.int 0) (.int 6) (.loc 7) (.loc 9) (.loc 51)),some (.inst 1111 3),some (.dict []),some (.dict []),
  some (.dict [(("Object":Str),.loc 11),(("BasicObject":Str),.loc 18),(("Class":Str),.loc 25),(("Module":Str),.loc 32),(("Kernel":Str),.loc 43)]),some (.dict [])]):=kr
theorem Vh:jb (OF p w K k m):=nd (p:=1≤500∧6≤500∧7≤16777216∧7≤16777216∧12≤16777216∧12≤16777216∧6≤16777216∧6≤16777216∧7≤16777216∧7≤16777216∧7≤16777216∧7≤16777216∧True) kr ⟨by decide,by decide,by decide,by decide,by decide,by decide,by decide,by decide,by decide,by decide,by decide,by decide,trivial⟩
end
theorem Vi{aD:List Nat}(h:aD.Nodup):∀(i j k:Nat),aD[i]? =some k→aD[j]? =some k→i=j:=fun i j k e1 e2=>by
 obtain⟨h1,g1⟩:=List.getElem?_eq_some_iff.mp e1;obtain⟨h2,g2⟩:=List.getElem?_eq_some_iff.mp e2;rcases Nat.lt_trichotomy i j with q|q|q
 ·exact absurd (g1.trans g2.symm) (List.pairwise_iff_getElem.mp h i j h1 h2 q)
 ·exact q
 ·exact absurd (g2.trans g1.symm) (List.pairwise_iff_getElem.mp h j i h2 h1 q)
noncomputable def Yu(a b c d e:Addr):Nat→Addr
 |0=>a
 |1=>b
 |2=>c
 |3=>d
 |_=>e
noncomputable def Dm(q:Nat→Addr)(out main:Value):St:=[.list [] [],.list [] [],pQ (.fB []) (.fB []) (.fB []) (.fB []) (.num 0) (.num 6) (.loc 4) (.aL out) (.aL main),.inst 1111 2,.dict (vX q)]
structure LS (p:Program) (w:World) (K:Frag) (L:LW) (B:Bs) (f:Bool) (I:IM) (σ:Nat→Addr) (st:St) (m:ai) (s:Shared):Prop where
 W:fJ 0 B I σ st.length s
 H:au (bN p w K) L.k L.A I σ st s
 l:av w.params L.fe m L.env I σ st.length s.heap
 t:m9 L f I σ st.length s
section
variable{K:Frag}
theorem LS.choose{f:Bool}{I dj:IM}{σ bH:Nat→Addr}{st bW st':St}{m m₂ m':ai}(S:LS p w K L B f I σ st m s)(hf:L.fe.free=[])(hX:∀b,X b→B.X b)(x:aM w.params X I σ st.length s.heap dj bH bW br.heap)(sm:bw s br)
  (dX:av w.params L.fe m₂ L.env dj bH bW.length br.heap)(QW:m9 L QX dj bH bW.length br)(fw:nV 0 aD z bH bW st')(fm:mL 0 aD z bH bW false m₂ m'):LS p w K L B QX (c8 dj bH z bW.length br.heap) (dY aD bH) st' m' br:=by
 have cO:au (bN p w K) L.k L.A dj bH bW br:=S.H.go x;refine⟨S.W.choose (qm _) hX x sm fw,⟨S.H.fit,cO.base.mono fT,cO.rel.choose fw⟩, ?_,QW.choose fw⟩;rw[fw.len];exact dX.vD cO.rel fm hf fw.vm fun j k e=>(fw.lt j k e).1
theorem Vj{E:dS}{Q:dS}{ns:List Int}{T:Tree 3}(hk:L.k=k+100)(eS:L.fe=bP)(S:LS p w K L B true I σ jg (gV ns (.aL bg) T) s)
  (x1:aM w.params (fun _=>False) I σ jg.length s.heap I1 jt jg s1.heap)(xw:bw s s1)(l1:av w.params L.fe (gV ns (.aL bg) T) L.env I1 jt jg.length s1.heap)
  (h:∀I' af s' y q out main,LS p w K L B true I' af (Dm q out main) (gV ns (.aL bg) T) s'→f7 I1 I'→aq I' w.params af 5 (.loc 3) y→Q y s'):wpAny (model p w) L.A (eval Yt L.env) Q E s1:=by
 have H1:au (bN p w K) (k+100) L.A I1 jt jg s1:=hk▸S.H.go x1;have f:=ZQ (p:=p) (w:=w) (K:=K) (k:=k) (m:=gV ns (.aL bg) T);simp only[Prod.mk.injEq]at f;obtain⟨f1,f2,f3⟩:=f;have l1':av w.params bP (gV ns (.aL bg) T) L.env I1 jt jg.length s1.heap:=eS▸l1;refine kD (cx:=bN p w K) (eY (mV p w K) 200) H1 l1' f1 Vh f2 rfl fun I2 fG s2 y x2 Bh H2 l2 r2=> ?_;have Yv:=f3;unfold woL at Yv;generalize hS:rZ (OF p w K k (gV ns (.aL bg) T))=S1 at*;simp only[List.cons.injEq,and_true]at Yv;obtain⟨e0,e1,e2,e3,e4,e5,e6,e7,e8⟩:=Yv;have d2:dictAt S1 2=some []:=by unfold dictAt;rw[e2];rfl
 have d5:dictAt S1 5=some []:=by unfold dictAt;rw[e5];rfl
 have d6:dictAt S1 6=some []:=by unfold dictAt;rw[e6];rfl
 have d8:dictAt S1 8=some []:=by unfold dictAt;rw[e8];rfl
 rw[gI]at e0 e1 e2 e3 e4 e5 e6 e7 e8;have lt:∀{j:Nat} {o:AO},S1[j]? =some o→j<S1.length:=fun e=>(List.getElem?_eq_some_iff.mp e).1;have ns':∀j,j<S1.length→fG j≠sysModules:=fun j hj q=>by
  obtain⟨o,ho⟩:=H2.base.tS;have:=H2.rel.out j hj;rw[q,ho]at this;cases this
 have fw:nV 0 [0,1,3,4,7] (· ∈[2,5,6,8]) fG S1 [.list [] [],.list [] [],pQ (.aL (.ref (fG 2))) (.aL (.ref (fG 5))) (.aL (.ref (fG 6))) (.aL (.ref (fG 8))) (.num 0) (.num 6) (.loc 4) (.aL (.ref (fG 9))) (.aL (.ref (fG 51))),.inst 1111 2,.dict (vX (Yu (fG 11) (fG 18) (fG 25) (fG 32) (fG 43)))]:=
  xd rfl (.cons e0 (.fix rfl) (.cons e1 (.fix rfl) (.cons e3 (.dict (.cons (.aL 2) (.cons (.aL 5) (.cons (.closed rfl) (.cons (.closed rfl) (.cons (.Nr 0) (.cons (.Nr 6) (.cons (.closed rfl) (.cons (.aL 6) (.cons (.loc rfl) (.cons (.closed rfl) (.cons (.closed rfl) (.cons (.aL 8) (.cons (.aL 9) (.cons (.closed rfl) (.cons (.aL 51) .nil))))))))))))))))
   (.cons e4 (.inst 1111 rfl) (.cons e7 (.dict (.cons (.aL 11) (.cons (.aL 18) (.cons (.aL 25) (.cons (.aL 32) (.cons (.aL 43) .nil)))))) .nil)))))
 have S':=S.choose (by rw[eS];rfl) (fun b q=>q.elim) (x1.trans x2) (xw.trans Bh) (m':=gV ns (.aL bg) T) (eS▸l2) (S.t.go (x1.trans x2) (fun q=>q)) fw (.cons (.closed rfl) (.cons (.loc rfl) (.cons (.loc rfl) (.cons (.fix rfl) (.cons (.closed (fN 3 T)) .nil)))));have gd:∀{j:Nat},dictAt S1 j=some []→j∈[2,5,6,8]→(∃e,c8 I2 fG (· ∈[2,5,6,8]) S1.length s2.heap (fG j)=some (dictOf [] e))∧fG j≠sysModules:=fun{j} d hz=>by
  obtain⟨es,ep,g,q⟩:=H2.rel.dictAt d;have hj:=lt (pA d);cases q.inv
  exact⟨⟨ep,vn (z:=(· ∈[2,5,6,8])) H2.rel hz hj g⟩,ns' j hj⟩
 have al:=S'.H.rel.alter (j:=2) (o':=pQ (.fB []) (.fB []) (.fB []) (.fB []) (.num 0) (.num 6) (.loc 4) (.aL (.ref (fG 9))) (.aL (.ref (fG 51)))) rfl fun ob _ q=>
  Gi (gd d2 (.head _)).1 (gd d5 (.tail _ (.head _))).1 (gd d6 (.tail _ (.tail _ (.head _)))).1 (gd d8 (.tail _ (.tail _ (.tail _ (.head _))))).1 (gd d2 (.head _)).2 (gd d5 (.tail _ (.head _))).2 (gd d6 (.tail _ (.tail _ (.head _)))).2 (gd d8 (.tail _ (.tail _ (.tail _ (.head _))))).2 q
 refine h _ _ s2 y (Yu (fG 11) (fG 18) (fG 25) (fG 32) (fG 43)) (.ref (fG 9)) (.ref (fG 51)) ⟨S'.W,⟨S'.H.fit,S'.H.base,al⟩,S'.l,S'.t⟩ (fun b o e=>fT b o (x2.le.i b o e)) ?_;induction r2.inv using iH.casesOn
 exact .loc (σ:=dY [0,1,3,4,7] fG) 3 (by decide)
end
noncomputable def q8(ns:List Int)(bg:Value)(T:Tree 3):ai:=[("script",.lst (ns.map V.num)),("due",.loc 8),("marks",.loc 5),("bag",.aL bg),("tree",Tree.v 3 T),("walker",.loc 1)]
noncomputable def Yw(ns:List Int)(bg:Value)(T:Tree 3):ai:=[("script",.lst (ns.map V.num)),("due",.loc 1),("marks",.loc 0),("bag",.aL bg),("tree",Tree.v 3 T),("walker",.loc 7)]
noncomputable def mj(q:Nat→Addr)(out main:Value):Ws:=⟨[],0,6,vX q,out,main⟩
noncomputable def st9(q:Nat→Addr)(out main:Value)(tb:ai):St:=[.list [] [],.list [] [],pQ (.fB []) (.fB []) (.fB []) (.fB []) (.num 0) (.num 6) (.loc 4) (.aL out) (.aL main),.inst 1111 2,.dict (vX q),.dict tb,
 .dict [("world",.loc 3),("table",.loc 5),("catches",.tup []),("stack",.loc 8),("way",.none),("fiber",.none)],.inst 562 6,.list [] []]
noncomputable def n8(q:Nat→Addr)(out main:Value)(tb:ai):St:=[.list [] [],.list [] [],pQ (.fB []) (.fB []) (.fB []) (.fB []) (.num 0) (.num 6) (.loc 4) (.aL out) (.aL main),.inst 1111 2,.dict (vX q),.dict tb]
noncomputable def FFk(w:Ws)(tb:ai):St:=[DK .none,.inst 562 0,AW w,.inst 1111 2,.list [] [],.list [] w.aa,.dict w.md,.dict tb,.list [] []]
theorem Vk(w:Ws)(tb:ai):(FFk w tb).set 7 (.dict (zH 5))=FF (.list [] []) .none w [.list [] []]:=rfl
section
variable{st:St}
theorem Vl(Sd:aU cx ev)(H:au cx k A I σ st s)(rf:aq I cx.P σ st.length f y)(ra:aG I cx.P σ st.length args ys)(g:iM (ev.c k f args st)=true)(hn:jb (ev.c k f args st))(e1:rY (ev.c k f args st)=v)(e2:rZ (ev.c k f args st)=st')
  (h:∀I' af s' z,aM cx.P (fun _=>False) I σ st.length s.heap I' af st' s'.heap→bw s s'→au cx k A I' af st' s'→aq I' cx.P af st'.length v z→Q z s'):wpAny cx.M A (call y ys) Q E s:=by
 refine Sd.c H rf ra (MT (S:=cx.S) (pre:=cx.pre) g hn ?_).out;rw[e1,e2];intro I' af y s' x sm r;exact h I' af s' y x sm (H.go x) r
end
section
variable{K:Frag}
theorem fw9:nV 0 [6,7,2,3,8,0,4,5,1] (· ∈[]) σ (st9 q out main (ju f1 f2 f3 f4 f5 f6)) (FFk (mj q out main) (ju f1 f2 f3 f4 f5 f6)):=
 xd rfl (.cons rfl (.dict (.cons (.loc rfl) (.cons (.loc rfl) (.cons (.fix rfl) (.cons (.loc rfl) (.cons (.fix rfl) (.cons (.fix rfl) .nil))))))) (.cons rfl (.inst 562 rfl)
  (.cons rfl (.dict (.cons (.fix rfl) (.cons (.fix rfl) (.cons (.fix rfl) (.cons (.fix rfl) (.cons (.fix rfl) (.cons (.fix rfl) (.cons (.fix rfl) (.cons (.fix rfl) (.cons (.loc rfl) (.cons (.fix rfl) (.cons (.fix rfl) (.cons (.fix rfl) (.cons (.fix rfl) (.cons (.fix rfl) (.cons (.fix rfl) .nil))))))))))))))))
  (.cons rfl (.inst 1111 rfl) (.cons rfl (.fix rfl) (.cons rfl (.fix rfl) (.cons rfl (.fix rfl) (.cons rfl (.fix rfl) (.cons rfl (.fix rfl) .nil)))))))))
theorem Vm{ns:List Int}{T:Tree 3}{bg:Value}{rest:List Stmt}{q:Nat→Addr}(hk:L.k=k+100)(eS:L.fe=bP)(hX:∀b,aF L.env b→B.X b)(OG:B.X L.T)
  (pP:g7 p w K L B false (FF (.list [] []) .none (mj q out main) [.list [] []]) (q8 ns bg T) rest)(S2:LS p w K L B true I2 fG (Dm q out main) (gV ns (.aL bg) T) s2)
  (x:aM w.params (fun b=>b=L.T) I2 fG (Dm q out main).length s2.heap I6 wc (n8 q out main (ju f1 f2 f3 f4 f5 f6)) s6.heap)(sm:bw s2 s6)(H6:au (bN p w K) (k+100) L.A I6 wc (n8 q out main (ju f1 f2 f3 f4 f5 f6)) s6)
  (l6:av w.params bP (gV ns (.aL bg) T) L.env I6 wc (n8 q out main (ju f1 f2 f3 f4 f5 f6)).length s6.heap)(t6:m9 L false I6 wc (n8 q out main (ju f1 f2 f3 f4 f5 f6)).length s6)(tb:pe I6 (wc 0) f1 f2 f3 f4 f5 f6)
  (rc:aq I6 w.params wc (n8 q out main (ju f1 f2 f3 f4 f5 f6)).length (.top 562) yc)(rs:aG I6 w.params wc (n8 q out main (ju f1 f2 f3 f4 f5 f6)).length [.loc 3,.loc 5,.tup []] [yw,yt,yu]):
  wpAny (model p w) L.A (call yc [yw,yt,yu]) (fun y s₁=>wpAny (model p w) L.A (assign (Gh (fy 2)) L.env y) (fun _ s'=>wpAny (model p w) L.A (execs rest L.env) L.Q L.E s') L.E s₁) L.E s6:=by
 have Sd:=eY (mV p w K) 60;have e1:rY ((cX (bN p w K) 60).c (k+100) (.top 562) [.loc 3,.loc 5,.tup []] (n8 q out main (ju f1 f2 f3 f4 f5 f6)))=.loc 7:=kr;have e2:rZ ((cX (bN p w K) 60).c (k+100) (.top 562) [.loc 3,.loc 5,.tup []] (n8 q out main (ju f1 f2 f3 f4 f5 f6)))=st9 q out main (ju f1 f2 f3 f4 f5 f6):=kr;have e3:iM ((cX (bN p w K) 60).c (k+100) (.top 562) [.loc 3,.loc 5,.tup []] (n8 q out main (ju f1 f2 f3 f4 f5 f6)))=true:=kr;have e4:jb ((cX (bN p w K) 60).c (k+100) (.top 562) [.loc 3,.loc 5,.tup []] (n8 q out main (ju f1 f2 f3 f4 f5 f6))):=gY kr;refine Vl (cx:=bN p w K) Sd H6 rc rs e3 e4 e1 e2 fun I7 σ7 s7 y x7 sm7 H7 r7=> ?_;have l7:=l6.ext x7;have t7:=t6.go x7 (fun q=>q);have tb7:pe I7 (σ7 0) f1 f2 f3 f4 f5 f6:=by
  rw[x7.le.s 0 (by show 0<6;decide)];exact tb.mono x7.le.i
 have ep:iF bP (Gh (fy 2)) (.loc 7) (gV ns (.aL bg) T)=some (Yw ns bg T):=kr;refine pF (cx:=bN p w K) H7 l7 r7 ep fun s8 x8 sm8 l8=> ?_;have t8:=t7.go x8 t7.o;have S8:=S2.choose (by rw[eS];rfl) (X:=B.X) (fun b hb=>hb) (((x.weaken (Y:=B.X) fun b hb=>hb▸OG).trans (x7.weaken (Y:=B.X) fun _ q=>q.elim)).trans (x8.weaken (Y:=B.X) hX)) ((sm.trans sm7).trans sm8) (m':=q8 ns bg T) (eS▸l8) t8 fw9
  (.cons (.closed rfl) (.cons (.loc rfl) (.cons (.loc rfl) (.cons (.fix rfl) (.cons (.closed (fN 3 T)) (.cons (.loc rfl) .nil))))))
 have al:=S8.H.rel.alter (j:=7) (o':=.dict (zH 5)) rfl fun ob _ q=>pe.tell (l:=5) (tb7.mono fun b o e=>fT b o e) (by show 5<9;decide) q;rw[Vk]at al;exact pP.out _ _ s8 S8.W ⟨S8.H.fit,S8.H.base,al⟩ S8.l S8.t
theorem Yx{ns:List Int}{T:Tree 3}(hk:L.k=k+100)(eS:L.fe=bP)(hX:∀b,aF L.env b→B.X b)(OG:B.X L.T)(kb:KB B.I 1265 L.T)
  (pP:∀q out main,g7 p w K L B false (FF (.list [] []) .none (mj q out main) [.list [] []]) (q8 ns bg T) rest):g7 p w K L B true jg (gV ns (.aL bg) T) (fy 2::rest):=by
 refine⟨fun I σ s W H l ti=> ?_⟩;have S0:LS p w K L B true I σ jg (gV ns (.aL bg) T) s:=⟨W,H,l,ti⟩;have SW:L.fe.free=[]:=by rw[eS];rfl
 have Sd:=eY (mV p w K) 60;rw[ZP];refine wpAny_execs_cons (Gj (cx:=bN p w K) l (by rw[eS];kernel_rfl) (by rw[eS];kernel_rfl) kr ?_);have H0:au (bN p w K) (k+100) L.A I σ jg s:=hk▸H;have l0:av w.params bP (gV ns (.aL bg) T) L.env I σ jg.length s.heap:=eS▸l;refine Call_ (kD (cx:=bN p w K) (v:=.top 562) (st':=jg) Sd H0 l0 kr (gY kr) kr kr fun I1 jt s1 yc x1 xw H1 l1 r1=> ?_);refine vF (cx:=bN p w K) (f:=.top 562) kr kr H1 r1 ?_;refine args_cons ?_ (eX _ _ kr);refine Vj hk eS S0 x1 xw (eS▸l1) fun I2 fG s2 yw q out main S2 i2 rw2=> ?_;have H2:au (bN p w K) (k+100) L.A I2 fG (Dm q out main) s2:=hk▸S2.H;have l2:av w.params bP (gV ns (.aL bg) T) L.env I2 fG (Dm q out main).length s2.heap:=eS▸S2.l;refine args_cons ?_ (eX _ _ kr);refine Call_ (kD (cx:=bN p w K) (v:=.top 1266) (st':=Dm q out main) Sd H2 l2 kr (gY kr) kr kr fun I3 kg s3 yk x3 Gk H3 l3 r3=> ?_);refine vF (cx:=bN p w K) (f:=.top 1266) kr kr H3 r3 ?_;have hka:sH OD=[zO (sH OD) 0]:=kr;rw[hka];refine args_cons ?_ (eX _ _ kr);refine kD (cx:=bN p w K) (v:=.loc 0) (st':=Dm q out main) Sd H3 l3 kr (gY kr) kr kr fun I4 σ4 s4 ym x4 OH H4 l4 r4=> ?_;rw[show yk=_ from r3.inv,(uf r4).1];refine args_nil ⟨fun b o e=>H4.rel.sub b o (x4.le.i b o e), ?_⟩;have x24:=x3.trans x4;have t4:=S2.t.go x24 (fun q=>q);obtain⟨ps,tg,tp⟩:=t4.t;have tp:=tp rfl;subst tp;refine KQ (k:=k+79) (T:=L.T) (l:=0) H4 rfl (kb.mono fun b o e=>x4.le.i b o (x3.le.i b o (S2.W.i b o e))) t4.i t4.sg tg fun I5 Gg s5 yt f1 f2 f3 f4 f5 f6 x5 SX tb5 r5 ht5=> ?_;have H5:au (bN p w K) (k+100) L.A I5 Gg (n8 q out main (ju f1 f2 f3 f4 f5 f6)) s5:=⟨H4.fit,H4.base.mono x5.le.i,x5.rel⟩;have l5:av w.params bP (gV ns (.aL bg) T) L.env I5 Gg (n8 q out main (ju f1 f2 f3 f4 f5 f6)).length s5.heap:=l4.abo rfl x5 fun b hb e=>t4.o (e▸hb);have t5:m9 L false I5 Gg (n8 q out main (ju f1 f2 f3 f4 f5 f6)).length s5:=by
  obtain⟨ps,e5⟩:=ht5;refine⟨?_,fun j hj=> ?_,t4.o,ps,e5,fun q=>by exact ft q⟩
  ·induction q:I5 L.T using qe with
   |none=>rfl
   |some o=>
    rcases x5.fresh _ o q with q|q
    ·rw[t4.i]at q;exact nn q
    ·rw[tg]at q;cases q
  ·by_cases hh:j<(Dm q out main).length
   ·rw[x5.le.s j hh];exact t4.sg j hh
   ·intro z;have:=x5.new j (qC hh) hj;rw[z,tg]at this;cases this
 refine args_cons ?_ (eX _ _ kr);have g1:iM ((cX (bN p w K) 60).e (k+100) bP (gV ns (.aL bg) T) (n8 q out main (ju f1 f2 f3 f4 f5 f6)) OE)=true:=kr;have g2:jb ((cX (bN p w K) 60).e (k+100) bP (gV ns (.aL bg) T) (n8 q out main (ju f1 f2 f3 f4 f5 f6)) OE):=gY kr;have g3:rY ((cX (bN p w K) 60).e (k+100) bP (gV ns (.aL bg) T) (n8 q out main (ju f1 f2 f3 f4 f5 f6)) OE)=.tup []:=kr;have g4:rZ ((cX (bN p w K) 60).e (k+100) bP (gV ns (.aL bg) T) (n8 q out main (ju f1 f2 f3 f4 f5 f6)) OE)=n8 q out main (ju f1 f2 f3 f4 f5 f6):=kr;refine kD (cx:=bN p w K) Sd H5 l5 g1 g2 g3 g4 fun I6 wc s6 yu x6 Oz H6 l6 r6=> ?_;refine args_nil ⟨fun b o e=>H6.rel.sub b o (x6.le.i b o (x5.le.i b o (x4.le.i b o (x3.le.i b o (i2 b o e))))), ?_⟩;have x26:=((x24.weaken (Y:=fun b=>b=L.T) fun _ q=>q.elim).trans x5).trans (x6.weaken (Y:=fun b=>b=L.T) fun _ q=>q.elim);have rc:aq I6 w.params wc (n8 q out main (ju f1 f2 f3 f4 f5 f6)).length (.top 562) yc:=by cases r1.inv;exact .top _
 have tb6:pe I6 (wc 0) f1 f2 f3 f4 f5 f6:=by
  rw[x6.le.s 0 (by show 0<6;decide)];exact tb5.mono x6.le.i
 exact Vm hk eS hX OG (pP q out main) S2 x26 (((Gk.trans OH).trans SX).trans Oz) H6 l6 (t5.go x6 fun q=>q) tb6 rc (.cons (rw2.mono x26.le) (.cons (r5.mono x6.le) (.cons r6 .nil)))
end
theorem fJ.Vn(w:fJ 0 B I σ n s)(hX:∀b,X b→B.X b)
  (x:aM P X I σ n s.heap dj bH bW br.heap)(sm:bw s br)(f:nV c' aD z bH bW st'):fJ 0 B (c8 dj bH z bW.length br.heap) (dY aD bH) st'.length br:=by
 have dead:∀{b:Addr},s.heap.get? b=none→B.s.heap.get? b=none:=fun{b} e=>by
  induction q:B.s.heap.get? b using qe with
  |none=>rfl
  |some o=>obtain⟨o',e'⟩:=w.alive b o q;rw[e]at e';exact nn e'
 have FP:∀k,k<bW.length→B.X (bH k)∨B.s.heap.get? (bH k)=none:=fun k h2=>by
  by_cases q:k<n
  ·rw[x.le.s k q];exact w.own k (qm _) q
  ·exact .inr (dead (x.new k (qC q) h2))
 refine⟨fun b o e=>fT _ _ (x.le.i b o (w.i b o e)),fun k hk=>absurd hk (qr _),fun b o e=> ?_,fun j h1 h2=> ?_,fun b o e h1 h2=> ?_,fun b o e=> ?_,w.same.trans sm⟩
 ·rcases gS e with q|⟨_,_,k,hz,hk,e'⟩
  ·rcases x.fresh b o q with q|q
   ·exact w.fresh b o q
   ·exact .inr (.inl (dead q))
  ·rw[←e'];rcases FP k hk with q|q
   ·exact .inr (.inr q)
   ·exact .inr (.inl q)
 ·have hj:j<aD.length:=by rw[←f.len];exact h2
  have ej:aD[j]? =some aD[j]:=qw hj;rw[eG ej];exact FP _ (f.lt j _ ej).1
 ·refine x.keep b o (w.keep b o e h1 h2) (fun q=>h1 (hX b q)) fun k hk q=> ?_;rcases w.own k (qm _) hk with q'|q'
  ·rw[q]at q';exact h1 q'
  ·rw[q,e]at q';exact ns q'
 ·obtain⟨o',e'⟩:=w.alive b o e;exact x.alive b o' e'
section
variable{K:Frag}
theorem LS.Vo{c:Nat}{f:Bool}{I dj:IM}{σ bH:Nat→Addr}{st bW st':St}(S:LS p w K L B f I σ st m s)(hf:L.fe.free=[])(hX:∀b,X b→B.X b)(x:aM w.params X I σ st.length s.heap dj bH bW br.heap)(sm:bw s br)
  (dX:av w.params L.fe m₂ L.env dj bH bW.length br.heap)(QW:m9 L QX dj bH bW.length br)(fw:nV c aD z bH bW st')(fm:mL c aD z bH bW false m₂ m'):LS p w K L B QX (c8 dj bH z bW.length br.heap) (dY aD bH) st' m' br:=by
 have cO:au (bN p w K) L.k L.A dj bH bW br:=S.H.go x;refine⟨S.W.Vn hX x sm fw,⟨S.H.fit,cO.base.mono fT,cO.rel.choose fw⟩, ?_,QW.choose fw⟩;rw[fw.len];exact dX.vD cO.rel fm hf fw.vm fun j k e=>(fw.lt j k e).1
theorem QY{f:Bool}{st:St}{m:ai}{x:Stmt}{rest:List Stmt}(Sd:aU (kP p w S aI as K) ev)(hX:∀b,aF L.env b→B.X b)(hf:L.fe.free=[])
  (g:Gd S aI (iB (kP p w S aI as K) ev L.k L.fe m st x) fun q=>q.1.1=.next∧∀σ,(∀k,k<q.2.length→σ k≠sysModules)→∃aD z st' m',nV c aD z σ q.2 st'∧mL c aD z σ q.2 false q.1.2 m'∧g7 p w K L B f st' m' rest):
  g7 p w K L B f st m (x::rest):=by
 refine⟨fun I σ s W H l ti=> ?_⟩;have S0:LS p w K L B f I σ st m s:=⟨W,H,l,ti⟩;have H':au (kP p w S aI as K) L.k L.A I σ st s:=H.cx;refine wpAny_execs_cons (m5 Sd H' l (Good.mono (fun q gq dj bH f br bQ cJ ro=> ?_) g.out));obtain⟨⟨out,m₂⟩,bW⟩:=q;obtain⟨ro,dX⟩:=ro;obtain⟨e1,gq⟩:=gq;cases e1
 obtain rfl:=ro;have cO:au (kP p w S aI as K) L.k L.A dj bH bW br:=H'.go bQ;obtain⟨aD,z,st',m',fw,fm,at'⟩:=gq bH fun k hk q=>by
  obtain⟨o,ho⟩:=cO.base.tS;have:=cO.rel.out k hk;rw[q,ho]at this;exact ns this
 have S2:=S0.Vo hf hX bQ cJ dX (ti.go bQ ti.o) fw fm;exact at'.out _ _ br S2.W S2.H S2.l S2.t
end
theorem Vp:∀T:Tree 3,∃kb pb,Tree.node 3 T=aj kb pb
 |.leaf l=>by induction l using aH.casesOn<;>exact⟨_,_,rfl⟩
 |.jT _ _ _=>⟨_,_,rfl⟩
 |.jD _ _ _=>⟨_,_,rfl⟩
 |.j9 _ _=>⟨_,_,rfl⟩
 |.jE _ _=>⟨_,_,rfl⟩
noncomputable def pg(ns:List Int)(bg:Value)(T:Tree 3):ai:=[("script",.lst (ns.map V.num)),("due",.loc 11),("marks",.loc 5),("bag",.aL bg),("tree",Tree.v 3 T),("walker",.loc 1)]
noncomputable def stG(kb:Str)(pb:V)(w0:Ws):St:=FF (.list [] [.loc 10]) .none w0 [.list [] [],bx kb (aj kb pb) (.int 0) (.loc 11),.inst 463 9,.list [] []]
noncomputable def jX(kb:Str)(pb:V)(w0:Ws):St:=FF (.list [] [.loc 9]) .none w0 (iC kb (aj kb pb)++[.list [] []])
theorem Iz{st:St}{kb:Str}{pb:V}{l l':Nat}(h:aD[l']? =some l):mO 8 aD z σ st (bx kb (aj kb pb) (.int 0) (.loc l)) (bx kb (aj kb pb) (.int 0) (.loc l')):=
 .dict (.cons (.closed rfl) (.cons (.fix rfl) (.cons (.closed rfl) (.cons (.closed rfl) (.cons (.closed rfl) (.cons (.loc h) (.cons (.closed rfl) .nil)))))))
theorem abp(hm:bB w0.aa=true)(hd:dF w0.md=true):nV 8 [0,1,2,3,4,5,6,7,9,10,11,8] (· ∈[]) σ (stG kb pb w0) (jX kb pb w0):=
 nW (ks:=[9,10,11,8]) rfl (.fix rfl) (.cons (.loc rfl) .nil) hm (fj hd) (.cons rfl (Iz rfl) (.cons rfl (.inst 463 rfl) (.cons rfl (.fix rfl) (.cons rfl (.fix rfl) .nil))))
section
variable{K:Frag}
theorem Yy{ns:List Int}{T:Tree 3}{bg:Value}(ok:Tree.ok 3 T)(hk:L.k=k+100)(eS:L.fe=bP)(hX:∀b,aF L.env b→B.X b)
  (pP:∀kb pb,Tree.node 3 T=aj kb pb→g7 p w K L B false (jX kb pb (mj q out main)) (pg ns bg T) rest):g7 p w K L B false (FF (.list [] []) .none (mj q out main) [.list [] []]) (q8 ns bg T) (fy 3::rest):=by
 obtain⟨kb,pb,e⟩:=Vp T;refine QY (c:=8) (S:=pW 7) (as:=[1175]) (ev:=cX (Sv p w K 7) 60) (eY (Zs p w K 7) 60) hX (by rw[eS];rfl) ?_;rw[hk,eS];refine mU (.tree 3 T) (k+100) (show 6<7 by decide) (qg 11 (k+89)) ok ?_;rw[show gw.node (.tree 3 T)=_ from e];refine kN (a:=((.next,q8 ns bg T),stG kb pb (mj q out main))) kr (nd (p:=1≤500∧True) kr ⟨by decide,trivial⟩) ?_;exact⟨rfl,fun σ _=>⟨_,_,_,pg ns bg T,abp kr kr,.cons (.closed rfl) (.cons (.loc rfl) (.cons (.fix rfl) (.cons (.fix rfl) (.cons (.closed (fN 3 T)) (.cons (.fix rfl) .nil))))),pP kb pb e⟩⟩
end
noncomputable def xy(i:Nat):Stmt:=match di (jJ sU) i with
 |some s=>s
 |none=>.Pass default
noncomputable def abq:Pos:=match xy 0 with
 |.While _ _ _ p=>p
 |_=>default
theorem QZ:jJ sU=[.While uH yi [] abq,xy 1]:=kr
theorem fJ.step(w:fJ c B I σ n s)(hc:c≤n)(hX:∀b,X b→B.X b)
  (x:aM P X I σ n s.heap dj bH bW br.heap)(sm:bw s br):fJ c B dj bH bW.length br:=by
 have dead:∀{b:Addr},s.heap.get? b=none→B.s.heap.get? b=none:=fun{b} e=>by
  induction q:B.s.heap.get? b using qe with
  |none=>rfl
  |some o=>obtain⟨o',e'⟩:=w.alive b o q;rw[e]at e';exact nn e'
 refine⟨fun b o e=>x.le.i b o (w.i b o e),fun k hk=> ?_,fun b o e=> ?_,fun j h1 h2=> ?_,fun b o e h1 h2=> ?_,fun b o e=> ?_,w.same.trans sm⟩
 ·rw[x.le.s k (by exact qz ‹_› ‹_›)];exact w.sg k hk
 ·rcases x.fresh b o e with q|q
  ·exact w.fresh b o q
  ·exact .inr (.inl (dead q))
 ·by_cases q:j<n
  ·rw[x.le.s j q];exact w.own j h1 q
  ·exact .inr (dead (x.new j (qC q) h2))
 ·refine x.keep b o (w.keep b o e h1 h2) (fun q=>h1 (hX b q)) fun k hk q=> ?_;rcases qR k c with g|g
  ·rw[w.sg k g]at q;exact h2 k g q
  ·rcases w.own k g hk with q'|q'
   ·rw[q]at q';exact h1 q'
   ·rw[q,e]at q';exact ns q'
 ·obtain⟨o',e'⟩:=w.alive b o e;exact x.alive b o' e'
theorem fJ.back(w:fJ c ⟨X,I0,jK,s1⟩ I σ n s)(kp:∀b o,s0.heap.get? b=some o→s1.heap.get? b=some o)(sm:bw s0 s1):fJ c ⟨X,I0,jK,s0⟩ I σ n s:=by
 have dead:∀{b:Addr},s1.heap.get? b=none→s0.heap.get? b=none:=fun{b} e=>by
  induction q:s0.heap.get? b using qe with
  |none=>rfl
  |some o=>rw[kp b o q]at e;exact ns e
 exact⟨w.i,w.sg,fun b o e=>(w.fresh b o e).imp id fun q=>q.imp dead id,fun k h1 h2=>(w.own k h1 h2).imp id dead,fun b o e h1 h2=>w.keep b o (kp b o e) h1 h2,fun b o e=>w.alive b o (kp b o e),sm.trans w.same⟩
theorem Gl(h:o9 d u):∃a b,u=aC a b:=by
 induction d using bu.casesOn with
 |val x=>exact⟨_,_,h⟩
 |raise z=>obtain⟨e,_,_,h⟩:=h;exact⟨_,_,h⟩
section
variable{K:Frag}
set_option backward.match.sparseCases true in
theorem Q0(ok:Tree.ok 3 T)(e:Tree.node 3 T=aj kb pb)(wok:aW (cB 3) (Tree.rd 3 T).1.length w0)(H:au (bN p w K) (k+41) A I σ (FF (.list [] [.loc 9]) .none w0 (iC kb (aj kb pb))) s)
  (h:∀X I' af s' u w' y,(∀b,X b→s.heap.get? b=none∨∃j,8≤j∧j<11∧σ j=b)→fJ 8 ⟨X,I,σ,s⟩ I' af 8 s'→cF w.params I' af (FF (.list [] []) u w' []) s'.heap→bJ (Tree.rd 3 T) (cB 3) w0 u w'→aq I' w.params af 8 u y→Q y s'):
  wpAny (model p w) A (call (.ref 559) [.ref (σ 1)]) Q E s:=by
 obtain⟨⟨o,h1,h2,h3⟩,hc,gl,bl,cl,df⟩:=H.base.fns 559 sU [] (ri (a:=559) kr);have H1:au (bN p w K) (k+40+1) A I σ (FF (.list [] [.loc 9]) .none w0 (iC kb (aj kb pb))) s:=H;refine zN (E:=E) (m:=cG) (body:=jJ sU) H1 h1 h3 gl bl hc cl kr (.cons (aq.loc 1 (by show 1<11;decide)) .nil) kr kr kr fun env s₁ he rQ kp sm hf lo E'=> ?_;rw[QZ];refine wpAny_execs_cons ?_
 let R:SP:=fun br=>wpAny (model p w) (A.deeper env) (execs [xy 1] env) (fun f s'=>Q (match f with|.ret v=>v|_=>.none) s') E' br
 let L:Lp:=⟨k+40,A.deeper env,o8,env,cG,uH,yi,R,fun _ _=>False⟩
 let X:Addr→Prop:=fun b=>s.heap.get? b=none∨∃j,8≤j∧j<11∧σ j=b
 have rl:bL L k:=⟨⟨rfl,rfl⟩,rfl,rfl,rfl⟩;have hX:∀b,aF L.env b→X b:=fun b hb=>.inl (rQ b hb);have start:q6 (az p w K 20) L (1+cB 3) s₁:=by
  obtain⟨Yz,pb',e',ev⟩:=XY (p:=p) (wo:=w) (K:=K) (n:=20) rl (by decide) 3 T ok;have ee:aj Yz pb'=aj kb pb:=e'.symm.trans e;have ek:Yz=kb:=by
   unfold aj at ee;injection ee with _ ee;injection ee with ee _;injection ee with _ ee;injection ee
  rw[ee,ek]at ev;have B0:Bs:=⟨X,I,σ,s₁⟩;have H2:au (az p w K 20) L.k L.A I σ (FF (.list [] [.loc 9]) .none w0 (iC kb (aj kb pb))) s₁:=⟨hf,H.base.cx,(aM.grow H.rel kp).rel⟩;have ex:=aM.grow H.rel kp;refine ev w0 wok ⟨X,I,σ,s₁⟩ [] 1 hX (by decide) (fun u w' en=> ?_) I σ s₁ (fJ.refl 8 ⟨X,I,σ,s₁⟩ _ fun j h1 h2=>.inr ⟨j,h1,h2,rfl⟩) H2 lo;intro I' af s' W' H' l';have Sd:=eY (yg p w K 20) 60;have Sd0:=eY (mV p w K) 60;have t1:Gd (dR 20) aI ((cX (az p w K 20) 60).t (k+40) o8 cG (FF (.list [] []) u w' []) uH) (EB (az p w K 20) I' af (FF (.list [] []) u w' []) s' (fun b br=>(b=true→wpAny (az p w K 20).M L.A (execs L.body L.env) (fun f jR=>f=.next∧q6 (az p w K 20) L 0 jR) L.E br)∧(b=false→L.R br))):=by
   refine kN (a:=(false,FF (.list [] []) u w' [])) kr (nd (p:=1≤500∧True) kr ⟨by decide,trivial⟩) ?_;obtain⟨ua,ub,rfl⟩:=Gl en.way;intro I2 fG b s2 x2 Bh hb;subst hb;refine⟨(fun q=>by exact ft q),fun _=> ?_⟩;have l2:=l'.ext x2;have Hz:au (bN p w K) (k+40) (A.deeper env) I2 fG (FF (.list [] []) (aC ua ub) w' []) s2:=(H'.go x2).cx;have e1:yW (iB (bN p w K) (cX (bN p w K) 60) (k+40) o8 cG (FF (.list [] []) (aC ua ub) w' []) (xy 1))=.ret (aC ua ub):=kr;have e2:tw (iB (bN p w K) (cX (bN p w K) 60) (k+40) o8 cG (FF (.list [] []) (aC ua ub) w' []) (xy 1))=cG:=kr;have e3:lY (iB (bN p w K) (cX (bN p w K) 60) (k+40) o8 cG (FF (.list [] []) (aC ua ub) w' []) (xy 1))=FF (.list [] []) (aC ua ub) w' []:=kr;have e4:iM (iB (bN p w K) (cX (bN p w K) 60) (k+40) o8 cG (FF (.list [] []) (aC ua ub) w' []) (xy 1))=true:=kr;have e5:jb (iB (bN p w K) (cX (bN p w K) 60) (k+40) o8 cG (FF (.list [] []) (aC ua ub) w' []) (xy 1)):=gY kr;refine wpAny_execs_cons (m5 Sd0 Hz l2 (w9 (S:=(bN p w K).S) (pre:=(bN p w K).pre) e4 e5 ?_).out);rw[e1,e2,e3];intro I3 kg f s3 x3 Gk ro;obtain⟨ro,l3⟩:=ro;obtain⟨_,rfl,hy⟩:=ro;have W3:=(W'.step (qf _) (fun b (q:False)=>q.elim) x2 Bh).step (qf _) hX x3 Gk;exact h X I3 kg s3 (aC ua ub) w' _ (fun b q=>q) (W3.back kp sm) x3.rel en hy
  exact Sd.t H' l' t1.out
 refine wpAny_While (codeAny_whileLoop (fun n s'=>q6 (az p w K 20) L n s') ?_ (1+cB 3) start);intro n s' hr;induction n using qk with
 |zero=>exact hr.elim
 |succ n=>
  refine wpAny_mono hr (fun b br hb=> ?_) fun _ _ x=>x.elim;induction b using qd with
  |true=>exact wpAny_mono (hb.1 rfl) (fun f jR hf=>by obtain⟨rfl,q⟩:=hf;exact⟨n,qF _,q⟩) fun _ _ x=>x.elim
  |false=>exact wpAny_execs_nil (hb.2 rfl)
end
section
variable{st:St}
theorem Vq(Sd:aU cx ev)(H:au cx k A I σ st s)(l:av cx.P fe m env I σ st.length s.heap)(hn:ur o=true)(hl:Nat.beq jA.endLine pos.line=true)
  (g:iM (ev.e k fe m st o)=true)(nn:jb (ev.e k fe m st o))(e1:rY (ev.e k fe m st o)=v)(e2:rZ (ev.e k fe m st o)=st')(hf:oG cx st' v name=some (f,us))(hc:oK cx f=true)
  (h:∀I' af s' z zs,aM cx.P (fun _=>False) I σ st.length s.heap I' af st' s'.heap→bw s s'→au cx k A I' af st' s'→av cx.P fe m env I' af st'.length s'.heap→aq I' cx.P af st'.length f z→aG I' cx.P af st'.length us zs→wpAny cx.M A (call z zs) Q E s'):
  wpAny cx.M A (eval (.Call (.Attribute o name jA) [] [] pos) env) Q E s:=by
 have hp:ic []=true:=rfl;have KP:methodCallForm (([]:List Expr).length+([]:List Keyword).length) (backTo pos (starEach [] env)) (backToKw pos (keywordEach [] env))=true:=rfl;have sF:methodCallPos true o env jA pos=pure pos:=by
  unfold methodCallPos;have:(jA.endLine==pos.line)=true:=by rw[qt hl];exact beq_self_eq_true _
  simp[this]
 rw[arm_eval_Call,p8 hn];refine wpAny_bind (kD Sd H l g nn e1 e2 fun bG aZ s₁ iY aV aO aY bD b9=>wpAny_bind (wpAny_standAt ?_));unfold methodCall;rw[KP];refine wpAny_bind (wpAny_holding (zm aY b9 hf fun z zs rz EE t=> ?_));refine wpAny_bind (wpAny_of_eq sF ?_);have cO:au cx k A bG aZ st' {s₁ with toks:=t}:=⟨aY.fit,aY.base,aY.rel⟩;refine callWith_of (P:=fun h=>∀b o,bG b=some o→h.get? b=some o) (by rw[oV hp];rfl) (Iw aY.base rz hc) (oW hp (args_nil ⟨cO.rel.sub, ?_⟩));rw[List.append_nil];exact h bG aZ {s₁ with toks:=t} z zs aV aO cO bD rz EE
end
theorem cF.ZR{σ af:Nat→Addr}{st:St}{h:Heap}(r:cF P I σ st h)(e:∀k,k<st.length→af k=σ k):cF P I af st h:=by
 refine⟨r.sub,fun j o q=> ?_,fun i j hi hj q=>r.inj i j hi hj (by rw[←e i hi,←e j hj];exact q),fun j hj=>by rw[e j hj];exact r.out j hj⟩;obtain⟨ob,g,gC⟩:=r.cells j o q;exact⟨ob,by rw[e j (List.getElem?_eq_some_iff.mp q).1];exact g,gC.mono ⟨fun _ _ e=>e,e,qf _⟩⟩
theorem Gm(hz:∀k,¬z k):c8 I σ z n h=I:=by
 funext b
 induction q:c8 I σ z n h b using qe with
 |none=>
  induction q':I b using qe with
  |none=>rfl
  |some o=>rw[fT b o q']at q;exact ns q
 |some o=>
  rcases gS q with q|⟨_,_,k,z,_⟩
  ·exact q.symm
  ·exact(hz _ z).elim
theorem abr(hm:bB w0.aa=true)(hd:dF w0.md=true):nV 8 [0,1,2,3,4,5,6,7,8,9,10] (· ∈[]) σ (jX kb pb w0) (FF (.list [] [.loc 9]) .none w0 (iC kb (aj kb pb))):=
 nW (ks:=[8,9,10]) rfl (.fix rfl) (.cons (.loc rfl) .nil) hm (fj hd) (.cons rfl (Iz rfl) (.cons rfl (.inst 463 rfl) (.cons rfl (.fix rfl) .nil)))
theorem Q2(hm:bB w0.aa=true)(hd:dF w0.md=true)(r:cF P I σ (jX kb pb w0) h):cF P I σ (FF (.list [] [.loc 9]) .none w0 (iC kb (aj kb pb))) h:=by
 have:=r.choose (abr (σ:=σ) hm hd);rw[Gm fun k h=>nomatch h]at this;refine this.ZR fun k hk=> ?_;have hk:k<11:=hk
 match k,hk with
 |0,_|1,_|2,_|3,_|4,_|5,_|6,_|7,_|8,_|9,_|10,_=>rfl
 |k+11,h=>exact absurd h (by simp)
noncomputable def kK:List Nat:=[0,1,2,3,4,5,6,7,11]
theorem zP(h:k<8):kK[k]? =some k:=by
 match k,h with
 |0,_|1,_|2,_|3,_|4,_|5,_|6,_|7,_=>rfl
 |k+8,h=>exact absurd h (by simp)
theorem q9(h:j<9):(j<8∧kK[j]? =some j)∨(j=8∧kK[j]? =some 11):=by
 rcases qR j 8 with q|q
 ·exact .inl ⟨q,zP q⟩
 ·have:j=8:=by lia
  subst this;exact .inr ⟨rfl,rfl⟩
section
variable{K:Frag}
theorem LS.ran(S:LS p w K L B f I σ (jX kb pb w0) m s)(hf:L.fe.free=[])(SY:∀b,X b→s.heap.get? b=none∨∃j,8≤j∧j<11∧σ j=b)
  (W3:fJ 8 ⟨X,I,σ,s⟩ I3 kg 8 s3)(rel:cF w.params I3 kg (FF (.list [] []) u w' []) s3.heap)(fm:mL 8 kK (fun _=>False) σ (jX kb pb w0) false m m'):
  LS p w K L B f I3 (dY kK σ) (FF (.list [] []) u w' [.list [] []]) m' s3:=by
 have ln:(jX kb pb w0).length=12:=rfl;have r:=S.H.rel;have YA:∀b o,s.heap.get? b=some o→(∀j,8≤j→j<11→σ j≠b)→¬X b:=fun b o e hn q=>by
  rcases SY b q with z|⟨j,h1,h2,h3⟩
  ·rw[e]at z;exact ns z
  ·exact hn j h1 h2 h3
 have kept:∀b o,s.heap.get? b=some o→(∀j,j<11→σ j≠b)→s3.heap.get? b=some o:=fun b o e hn=>W3.keep b o e (YA b o e fun j _ h2=>hn j h2) fun k hk=>hn k (by exact wg ‹_›);have KR:∀b,I b=none→(∃o,s.heap.get? b=some o)→(∀j,8≤j→j<11→σ j≠b)→I3 b=none:=fun b h1 ⟨o,h2⟩ h3=>by
  induction q:I3 b using qe with
  |none=>rfl
  |some o'=>
   rcases W3.fresh b o' q with z|z|z
   ·have z:I b=some o':=z;rw[h1]at z;exact nn z
   ·have z:s.heap.get? b=none:=z;rw[h2]at z;exact ns z
   ·exact absurd z (YA b o h2 h3)
 have sg8:∀k,k<8→dY kK σ k=σ k:=fun k hk=>eG (zP hk);have YB:∀k,k<8→dY kK σ k=kg k:=fun k hk=>(sg8 k hk).trans (W3.sg k hk).symm;have s11:dY kK σ 8=σ 11:=rfl;have val:∀j,j<9→∃k,kK[j]? =some k∧k<12∧dY kK σ j=σ k:=fun j hj=>by
  rcases q9 hj with⟨a,b⟩|⟨a,b⟩
  ·exact⟨j,b,by exact wg ‹_›,eG b⟩
  ·exact⟨11,b,by decide,eG b⟩
 have zb:∃ob,s.heap.get? (σ 11)=some ob∧dw I w.params σ 12 (.list [] []) ob:=r.cells 11 _ rfl;obtain⟨ob,gd,od⟩:=zb;have gd3:s3.heap.get? (σ 11)=some ob:=kept _ _ gd fun j hj q=>by
  have:=r.inj j 11 (by rw[ln];exact Nat.lt_succ_of_lt ‹_›) (by rw[ln];decide) q;lia
 have abt:cF w.params I3 (dY kK σ) (FF (.list [] []) u w' [.list [] []]) s3.heap:=by
  refine⟨rel.sub,fun j o e=> ?_,fun i j hi hj e=> ?_,fun j hj=> ?_⟩
  ·have hj:j<9:=(List.getElem?_eq_some_iff.mp e).1;rcases q9 hj with⟨a,b⟩|⟨a,b⟩
   ·have e':(FF (.list [] []) u w' [])[j]? =some o:=by
     have:=e;exact MX (P:=fun j=>(FF (.list [] []) u w' [.list [] []])[j]? =some o→(FF (.list [] []) u w' [])[j]? =some o) a id id id id id id id id this
    obtain⟨WM,g,gC⟩:=rel.cells j o e';exact⟨WM,by rw[YB j a];exact g,gC.mono ⟨fun _ _ e=>e,fun k hk=>YB k hk,by show 8≤9;decide⟩⟩
   ·subst a;obtain rfl:=qc e;refine⟨ob,by rw[s11];exact gd3, ?_⟩;replace od:=od.inv;induction od using j7.casesOn with|mk ep hp rr=>rw[show _=[]from rr.inv]at*;exact .list ep hp .nil
  ·obtain⟨a,ea,ha,qa⟩:=val i hi;obtain⟨b,eb,hb,qb⟩:=val j hj;have:=r.inj a b (by rw[ln];exact ha) (by rw[ln];exact hb) (by rw[←qa,←qb];exact e);subst this;exact Vi (by decide) i j a ea eb
  ·have hj:j<9:=hj;rcases q9 hj with⟨a,b⟩|⟨a,b⟩
   ·rw[YB j a];exact rel.out j a
   ·subst a;rw[s11];exact KR _ (r.out 11 (by rw[ln];decide)) ⟨ob,gd⟩ fun j h1 h2 q=>by
     have:=r.inj j 11 (by rw[ln];lia) (by rw[ln];decide) q;lia
 have fix:∀k,k<8→kK[k]? =some k:=fun k hk=>zP hk;have ltD:∀(j k:Nat),kK[j]? =some k→k<(jX kb pb w0).length:=fun j k e=>by
  have hj:j<9:=(List.getElem?_eq_some_iff.mp e).1;rw[ln];rcases q9 hj with⟨a,b⟩|⟨a,b⟩
  ·rw[b]at e;obtain rfl:=qc e;exact wg ‹_›
  ·rw[b]at e;obtain rfl:=qc e;decide
 have l1:=S.l.vD r fm hf fix ltD;rw[Gm fun _ h=>h]at l1;have l4:av w.params L.fe m' L.env I3 (dY kK σ) 9 s3.heap:=by
  refine l1.kept hf (fun b o e=>W3.i b o e) (fun b o hb e=>kept b o e fun j hj=>(S.l.apart b hb).2 j (by rw[ln];lia)) fun b hb=> ?_;refine KR b (S.l.apart b hb).1 ?_ fun j _ h2=>(S.l.apart b hb).2 j (by rw[ln];lia);rcases hb with rfl|⟨y,hy,hc⟩
  ·obtain⟨mm,⟨o,_,_,ho,_⟩,_⟩:=S.l.ns;exact⟨o,ho⟩
  ·obtain⟨c,v,h1,o,ho,_⟩:=S.l.there y hy;rw[hc]at h1;obtain rfl:=qc h1;exact⟨o,ho⟩
 have t4:m9 L f I3 (dY kK σ) 9 s3:=by
  obtain⟨ps,tg,tp⟩:=S.t.t;refine⟨KR _ S.t.i ⟨_,tg⟩ fun j _ h2=>S.t.sg j (by rw[ln];lia),fun j hj=> ?_,S.t.o,ps,kept _ _ tg fun j hj=>S.t.sg j (by rw[ln];lia),tp⟩;obtain⟨a,_,ha,qa⟩:=val j hj;rw[qa];exact S.t.sg a (by rw[ln];exact ha)
 have S7:∀{b:Addr},s.heap.get? b=none→B.s.heap.get? b=none:=fun{b} e=>by
  induction q:B.s.heap.get? b using qe with
  |none=>rfl
  |some o=>obtain⟨o',e'⟩:=S.W.alive b o q;rw[e]at e';exact nn e'
 have W4:fJ 0 B I3 (dY kK σ) 9 s3:=by
  refine⟨fun b o e=>W3.i b o (S.W.i b o e),fun k hk=>absurd hk (qr _),fun b o e=> ?_,fun j _ hj=> ?_,fun b o e h1 _=> ?_,fun b o e=> ?_,S.W.same.trans W3.same⟩
  ·rcases W3.fresh b o e with z|z|z
   ·exact S.W.fresh b o z
   ·exact .inr (.inl (S7 z))
   ·rcases SY b z with q|⟨j,h1,h2,h3⟩
    ·exact .inr (.inl (S7 q))
    ·rcases S.W.own j (qm _) (by rw[ln];lia)with q|q
     ·exact .inr (.inr (h3▸q))
     ·exact .inr (.inl (h3▸q))
  ·obtain⟨a,_,ha,qa⟩:=val j hj;rw[qa];exact S.W.own a (qm _) (by rw[ln];exact ha)
  ·have e1:=S.W.keep b o e h1 fun k hk=>absurd hk (qr _);refine kept b o e1 fun j hj q=> ?_;rcases S.W.own j (qm _) (by rw[ln];lia)with z|z
   ·exact h1 (q▸z)
   ·rw[q,e]at z;exact ns z
  ·obtain⟨o',e'⟩:=S.W.alive b o e;exact W3.alive b o' e'
 exact⟨W4,⟨S.H.fit,S.H.base.mono W3.i,abt⟩,l4,t4⟩
end
noncomputable def Gn(e:Expr):Expr:=match e with
 |.Attribute o _ _=>o
 |_=>default
noncomputable def abu(e:Expr):Pos:=match e with
 |.Attribute _ _ p=>p
 |_=>default
noncomputable def Gp:Expr:=Yr (fy 4)
theorem ZS:fy 4=.Assign [Gh (fy 4)] (.Call (.Attribute (Gn (mW Gp)) "run" (abu (mW Gp))) [] [] (vG Gp)) (Ys (fy 4)):=kr
noncomputable def Bj(ns:List Int)(bg:Value)(T:Tree 3)(u:V):ai:=q8 ns bg T++[(("way":Str),u)]
section
variable{K:Frag}
theorem YC(hn:n≤400)(hc:c≤20000):aW c n (mj q out main):=⟨by show(0:Int)+c≤20000;lia,rfl,by show 0+n≤400;lia,⟨q,.inl rfl⟩⟩
theorem YD{ns:List Int}{T:Tree 3}{bg:Value}{rest:List Stmt}(ok:Tree.ok 3 T)(hl:(Tree.rd 3 T).1.length≤400)(e:Tree.node 3 T=aj kb pb)(hk:L.k=k+100)(eS:L.fe=bP)(hX:∀b,aF L.env b→B.X b)
  (pP:∀u w',bJ (Tree.rd 3 T) (cB 3) (mj q out main) u w'→g7 p w K L B false (FF (.list [] []) u w' [.list [] []]) (Bj ns bg T u) rest):g7 p w K L B false (jX kb pb (mj q out main)) (pg ns bg T) (fy 4::rest):=by
 refine⟨fun I σ s W H l ti=> ?_⟩;have S0:LS p w K L B false I σ (jX kb pb (mj q out main)) (pg ns bg T) s:=⟨W,H,l,ti⟩;have SW:L.fe.free=[]:=by rw[eS];rfl
 have Sd:=eY (mV p w K) 60;rw[ZS];refine wpAny_execs_cons (Gj (cx:=bN p w K) l (by rw[eS];kernel_rfl) (by rw[eS];kernel_rfl) kr ?_);have H0:au (bN p w K) (k+100) L.A I σ (jX kb pb (mj q out main)) s:=hk▸H;have l0:av w.params bP (pg ns bg T) L.env I σ (jX kb pb (mj q out main)).length s.heap:=eS▸l;have g1:iM ((cX (bN p w K) 60).e (k+100) bP (pg ns bg T) (jX kb pb (mj q out main)) (Gn (mW Gp)))=true:=kr;have g2:jb ((cX (bN p w K) 60).e (k+100) bP (pg ns bg T) (jX kb pb (mj q out main)) (Gn (mW Gp))):=gY kr;have g3:rY ((cX (bN p w K) 60).e (k+100) bP (pg ns bg T) (jX kb pb (mj q out main)) (Gn (mW Gp)))=.loc 1:=kr;have g4:rZ ((cX (bN p w K) 60).e (k+100) bP (pg ns bg T) (jX kb pb (mj q out main)) (Gn (mW Gp)))=jX kb pb (mj q out main):=kr;have g5:oG (bN p w K) (jX kb pb (mj q out main)) (.loc 1) "run"=some (.top 559,[.loc 1]):=kr;refine Vq (cx:=bN p w K) Sd H0 l0 kr kr g1 g2 g3 g4 g5 kr fun I1 jt s1 z zs x1 xw H1 l1 rz EE=> ?_;obtain⟨z1,ez,rz1⟩:=EE.inv1;rw[show z=_ from rz.inv,ez,(uf rz1).1];have cl:bB (mj q out main).aa=true:=rfl;have cd:dF (mj q out main).md=true:=kr;have S1:LS p w K L B false I1 jt (jX kb pb (mj q out main)) (pg ns bg T) s1:=⟨W.step (qm _) (fun b (q:False)=>q.elim) x1 xw,hk▸H1,eS▸l1,ti.go x1 fun q=>q⟩;have Hr:au (bN p w K) (k+59+41) L.A I1 jt (FF (.list [] [.loc 9]) .none (mj q out main) (iC kb (aj kb pb))) s1:=⟨H1.fit,H1.base,Q2 cl cd H1.rel⟩;refine Q0 ok e (YC hl (by decide)) Hr fun X I3 kg s3 u w' y SY W3 abv en ry=> ?_;have S3:=S1.ran SW SY W3 abv (m':=q8 ns bg T) (.cons (.closed rfl) (.cons (.loc rfl) (.cons (.fix rfl) (.cons (.fix rfl) (.cons (.closed (fN 3 T)) (.cons (.fix rfl) .nil))))));obtain⟨ua,ub,rfl⟩:=Gl en.way;have ry':aq I3 w.params (dY kK jt) (FF (.list [] []) (aC ua ub) w' [.list [] []]).length (aC ua ub) y:=(ki ry rfl).up;have ep:iF bP (Gh (fy 4)) (aC ua ub) (q8 ns bg T)=some (Bj ns bg T (aC ua ub)):=kr;have l3:av w.params bP (q8 ns bg T) L.env I3 (dY kK jt) (FF (.list [] []) (aC ua ub) w' [.list [] []]).length s3.heap:=eS▸S3.l;refine pF (cx:=bN p w K) S3.H l3 ry' ep fun s4 x4 OH l4=> ?_;exact(pP _ w' en).out _ _ s4 (S3.W.step (qm _) hX x4 OH) (S3.H.go x4) (eS▸l4) (S3.t.go x4 S3.t.o)
end
end
theorem xA{c:Int}(h0:0≤c)(h1:c≤1000001):(Str.ofString (toString c)).length≤7:=toString_length_le h0 (by decide) (by lia)
noncomputable def Val.d:Val→PyData
 |.none=>.none
 |.bool b=>.bool b
 |.int i=>.int i
noncomputable def Rz.d:Rz→PyData
 |.int i=>.int i
 |.str s=>.str s
noncomputable def Mark.d:Mark→PyData
 |.made i=>.tuple [.str "made",.int i]
 |.asked a b=>.tuple [.str "asked",a.d,b.d]
 |.guard i=>.tuple [.str "guard",.int i]
 |.bound n b=>.tuple [.str "bound",.str n,b.d]
noncomputable def bu.d:bu→PyData
 |.val x=>.tuple [.str "value",x.d]
 |.raise z=>.tuple [.str "raise",z.d]
section
theorem tM{x:Val}(r:aq I P σ n x.v y):Reads h y x.d []:=by
 induction x using Val.casesOn with
 |none=>cases r.inv;exact .none
 |bool b=>cases r.inv;exact .bool _
 |int i=>induction r.inv using fY.casesOn;exact .int _ _
theorem Q3{z:Rz}(r:aq I P σ n z.v y):Reads h y z.d []:=by
 induction z using Rz.casesOn with
 |int i=>induction r.inv using fY.casesOn;exact .int _ _
 |str s=>induction r.inv using oE.casesOn;exact .str _ _
theorem lK(r:aq I P σ n (.str x) y):Reads h y (.str x) []:=by induction r.inv using oE.casesOn;exact .str _ _
theorem Dn(r:aq I P σ n (.int i) y):Reads h y (.int i) []:=by induction r.inv using fY.casesOn;exact .int _ _
theorem nF(sub:∀b o,I b=some o→h.get? b=some o)(r:aq I P σ n (.tup vs) y)(hr:∀xs,aG I P σ n vs xs→ReadsAll h xs ds []):Reads h y (.tuple ds) []:=by
 replace r:=r.inv;induction r using iW.casesOn with|mk g r=>exact .tuple (sub _ _ g) rfl rfl (hr _ r)
theorem tN(ha:∀{y},aq I P σ n a y→Reads h y da [])(hb:∀{y},aq I P σ n b y→Reads h y db [])(xs:LV)(q:aG I P σ n [a,b] xs):ReadsAll h xs [da,db] []:=by
 obtain⟨y,z,rfl,h1,h2⟩:=q.inv2;exact .cons (ha h1) (.cons (hb h2) .nil)
theorem zc(ha:∀{y},aq I P σ n a y→Reads h y da [])(hb:∀{y},aq I P σ n b y→Reads h y db [])(hc:∀{y},aq I P σ n c y→Reads h y dc [])(xs:LV)(q:aG I P σ n [a,b,c] xs):ReadsAll h xs [da,db,dc] []:=by
 obtain⟨y,z,u,rfl,h1,h2,h3⟩:=q.VY;exact .cons (ha h1) (.cons (hb h2) (.cons (hc h3) .nil))
theorem KU{m:Mark}(sub:∀b o,I b=some o→h.get? b=some o)(r:aq I P σ n m.v y):Reads h y m.d []:=by
 induction m using Mark.casesOn with
 |made i=>exact nF sub r (tN lK Dn)
 |asked a b=>exact nF sub r (zc lK tM tM)
 |guard i=>exact nF sub r (tN lK Dn)
 |bound x b=>exact nF sub r (zc lK lK tM)
theorem Dp{w:bu}(sub:∀b o,I b=some o→h.get? b=some o)(r:aq I P σ n w.v y):Reads h y w.d []:=by
 induction w using bu.casesOn with
 |val x=>exact nF sub r (tN lK tM)
 |raise z=>exact nF sub r (tN lK Q3)
theorem OI(sub:∀b o,I b=some o→h.get? b=some o){ms:List Mark}:∀{xs:LV},aG I P σ n (ms.map Mark.v) xs→ReadsAll h xs (ms.map Mark.d) []:=by
 induction ms with
 |nil=>intro xs r;rw[show xs=[]from r.inv];exact .nil
 |cons m ms ih=>
  intro xs r;replace r:=r.inv;induction r using dP.casesOn with
  |mk h1 r=>exact .cons (KU sub h1) (ih r)
theorem G2{ms:List Mark}(sub:∀b o,I b=some o→h.get? b=some o)(g:h.get? a=some ob)(r:dw I P σ n (.list [] (ms.map Mark.v)) ob):Reads h (.ref a) (.list (ms.map Mark.d)) [a]:=by
 generalize hv:ms.map Mark.v=vs at r;replace r:=r.inv;induction r using j7.casesOn with
 |mk ep hp q=>
  subst hv;exact .list g rfl rfl (OI sub q)
end
theorem OJ{i:Int}(h0:0≤i)(h1:i≤100):i.natAbs.log2<1920:=by
 rcases Nat.eq_zero_or_pos i.natAbs with z|z
 ·rw[z];decide
 ·have:=(Nat.log2_lt (n:=i.natAbs) (k:=30) (by exact Nat.ne_of_gt ‹_›)).mpr (by lia);exact wg ‹_›
theorem KW(h0:0≤i)(h1:i≤100):(PyData.int i).weight≤7:=by
 unfold PyData.weight
 split
 ·exact nz
 ·rename_i hz
  have hz':i≠0:=by simpa using hz
  have:=(Nat.log2_lt (n:=i.natAbs) (k:=7) (by lia)).mpr (by lia)
  assumption
theorem OL{i:Int}(h0:0≤i)(h1:i≤100):PyData.leavesShort 8 (.int i)=true:=by
 simp only[PyData.leavesShort,decide_eq_true_eq];have:=xA h0 (by lia);show(Str.ofString (toString i)).length≤8;exact qP ‹_›
structure lM (B:Nat) (d:PyData):Prop where
 sh:d.showable=true
 lv:d.leavesShort 8=true
 nd:d.hasDict=false
 wt:d.weight≤B
theorem DQ{i:Int}(h0:0≤i)(h1:i≤100):lM 7 (.int i):=⟨by simp only[PyData.showable,decide_eq_true_eq];exact OJ h0 h1,OL h0 h1,rfl,KW h0 h1⟩
theorem KX(hs:ny x)(hl:x.length≤B):lM B (.str x):=⟨rfl,by simp only[PyData.leavesShort,List.all_eq_true,decide_eq_true_eq];exact hs,rfl,by show x.cps.size≤B;exact hl⟩
theorem lM.up(h:lM B d)(q:B≤C):lM C d:=⟨h.sh,h.lv,h.nd,qy h.wt q⟩
theorem DR{x:Val}(ok:x.ok):lM 7 x.d:=by
 induction x using Val.casesOn with
 |none=>exact⟨rfl,rfl,rfl,by decide⟩
 |bool b=>exact⟨rfl,rfl,rfl,by show 0≤7;decide⟩
 |int i=>exact DQ ok.1 (Int.le_trans ok.2 (by decide))
theorem Bk(h:lM x a)(k:lM y b):lM (x+y+2) (.tuple [a,b]):=by
 refine⟨?_, ?_, ?_, ?_⟩
 ·simp only[PyData.showable,PyData.showableAll,h.sh,k.sh];rfl
 ·simp only[PyData.leavesShort,PyData.leavesShortAll,h.lv,k.lv];rfl
 ·simp only[PyData.hasDict,PyData.hasDictAll,h.nd,k.nd];rfl
 ·simp only[PyData.weight,PyData.weightAll];have:=h.wt;have:=k.wt;lia
theorem OM(h:lM x a)(k:lM y b)(l:lM z c):lM (x+y+z+3) (.tuple [a,b,c]):=by
 refine⟨?_, ?_, ?_, ?_⟩
 ·simp only[PyData.showable,PyData.showableAll,h.sh,k.sh,l.sh];rfl
 ·simp only[PyData.leavesShort,PyData.leavesShortAll,h.lv,k.lv,l.lv];rfl
 ·simp only[PyData.hasDict,PyData.hasDictAll,h.nd,k.nd,l.nd];rfl
 ·simp only[PyData.weight,PyData.weightAll];have:=h.wt;have:=k.wt;have:=l.wt;lia
theorem yr(s:String)(h:(Str.ofString s).length≤40):lM 40 (.str (Str.ofString s)):=KX (lH s) h
theorem YE{m:Mark}(ok:FA m):lM 200 m.d:=by
 induction m using Mark.casesOn with
 |made i=>exact(Bk (yr "made" (by decide)) (DQ ok.1 (Int.le_trans ok.2 (by decide)))).up (by decide)
 |asked a b=>exact(OM (yr "asked" (by decide)) (DR ok.1) (DR ok.2)).up (by decide)
 |guard i=>exact(Bk (yr "guard" (by decide)) (DQ ok.1 (Int.le_trans ok.2 (by decide)))).up (by decide)
 |bound n b=>exact(OM (yr "bound" (by decide)) (KX ok.1.2 ok.1.1) (DR ok.2)).up (by decide)
theorem IA{x:Val}(ok:x.ok):ny (eE x)∧(eE x).length≤7:=by
 induction x using Val.casesOn with
 |none=>exact⟨lH "nil",by decide⟩
 |bool b=>induction b using qd;exact⟨lH "false",by decide⟩;exact⟨lH "true",by decide⟩
 |int i=>exact⟨lH _,xA ok.1 (by have:=ok.2;lia)⟩
theorem abw(ok:B8 z):lM 40 z.d:=by
 induction z using Rz.casesOn with
 |int i=>exact(DQ ok.1 ok.2).up (by decide)
 |str s=>
  obtain⟨x,hx,rfl⟩:=ok;obtain⟨h1,h2⟩:=IA hx;have e:("NoMatchingPatternError ":Str).length=23:=by decide
  exact KX (CS (lH _) h1) (by rw[strLen_append];lia)
theorem DS{w:bu}(ok:o7 w):lM 200 w.d:=by
 induction w using bu.casesOn with
 |val x=>exact(Bk (yr "value" (by decide)) (DR ok)).up (by decide)
 |raise z=>exact(Bk (yr "raise" (by decide)) (abw ok)).up (by decide)
theorem lM.len(h:lM B d):d.shown.length≤10*B+8:=by
 have:=PyData.shown_le 8 (by decide) d h.lv;have:=h.wt;lia
theorem IB:∀{ms:List Mark},ye ms→PyData.showableAll (ms.map Mark.d)=true∧PyData.leavesShortAll 8 (ms.map Mark.d)=true∧PyData.hasDictAll (ms.map Mark.d)=false∧PyData.weightAll (ms.map Mark.d)≤201*ms.length
 |[],_=>⟨rfl,rfl,rfl,qf _⟩
 |m::ms,ok=>by
  obtain⟨h1,h2,h3,h4⟩:=IB fun x hx=>ok x (qj _ hx);have h:=YE (ok m qi);refine⟨?_, ?_, ?_, ?_⟩
  ·simp only[List.map_cons,PyData.showableAll,h.sh,h1];rfl
  ·simp only[List.map_cons,PyData.leavesShortAll,h.lv,h2];rfl
  ·simp only[List.map_cons,PyData.hasDictAll,h.nd,h3];rfl
  ·simp only[List.map_cons,PyData.weightAll,List.length_cons];have:=h.wt;lia
theorem YF{ms:List Mark}(ok:ye ms):lM (201*ms.length) (.list (ms.map Mark.d)):=by
 obtain⟨h1,h2,h3,h4⟩:=IB ok;exact⟨by simp only[PyData.showable];exact h1,by simp only[PyData.leavesShort];exact h2,by simp only[PyData.hasDict];exact h3,by simp only[PyData.weight];exact h4⟩
section
open PySem.SeqAt
section
variable{K:Frag}
theorem yv{st:St}{m:ai}{x:Stmt}{rest:List Stmt}(Sd:aU (kP p w S aI as K) ev)(hX:∀b,aF L.env b→B.X b)
  (g:Gd S aI (iB (kP p w S aI as K) ev L.k L.fe m st x) fun q=>q.1.1=.next∧g7 p w K L B f q.2 q.1.2 rest):g7 p w K L B f st m (x::rest):=by
 refine⟨fun I σ s W H l ti=> ?_⟩;have H':au (kP p w S aI as K) L.k L.A I σ st s:=H.cx;refine wpAny_execs_cons (m5 Sd H' l (Good.mono (fun q gq dj bH f br bQ cJ ro=> ?_) g.out));obtain⟨⟨out,m₂⟩,bW⟩:=q;obtain⟨ro,dX⟩:=ro;obtain⟨e1,at'⟩:=gq;cases e1
 obtain rfl:=ro;exact at'.out _ _ br (W.step (qm _) hX bQ cJ) (H'.go bQ).cx dX (ti.go bQ ti.o)
noncomputable def jY:bu→V:=fun d=>match d with
 |.val x=>x.v
 |.raise z=>z.v
noncomputable def gG:bu→Str
 |.val _=>"value"
 |.raise _=>"raise"
noncomputable def gH(ns:List Int)(bg:Value)(T:Tree 3)(u v:V):ai:=Bj ns bg T u++[(("value":Str),v)]
theorem YG{ns:List Int}{T:Tree 3}{bg:Value}(hw:o9 d u)(Gq:o7 d)(hk:L.k=k+100)(eS:L.fe=bP)(hX:∀b,aF L.env b→B.X b)
  (pP:∀v0,u=aC (gG d) v0→g7 p w K L B false (FF (.list [] []) u w' [.list [] []]) (gH ns bg T u (jY d)) rest):g7 p w K L B false (FF (.list [] []) u w' [.list [] []]) (Bj ns bg T u) (fy 5::fy 6::rest):=by
 have Sd:=eY (mV p w K) 60;have plain:∀(a:Str) (v:V),(v=.none∨(∃b,v=.bool b)∨∃i,v=.int i)→(g7 p w K L B false (FF (.list [] []) (aC a v) w' [.list [] []]) (gH ns bg T (aC a v) v) rest)→g7 p w K L B false (FF (.list [] []) (aC a v) w' [.list [] []]) (Bj ns bg T (aC a v)) (fy 5::fy 6::rest):=fun a v hv hh=>by
  refine yv (S:=fun _ _ _ _ _=>False) (as:=[]) (ev:=cX (bN p w K) 60) Sd hX ?_;rw[hk,eS];refine kN (a:=((.next,gH ns bg T (aC a v) v),FF (.list [] []) (aC a v) w' [.list [] []])) (by rcases hv with rfl|⟨b,rfl⟩|⟨i,rfl⟩<;>kernel_rfl) (gY (by rcases hv with rfl|⟨b,rfl⟩|⟨i,rfl⟩<;>kernel_rfl)) ⟨rfl, ?_⟩
  refine yv (S:=fun _ _ _ _ _=>False) (as:=[]) (ev:=cX (bN p w K) 60) Sd hX ?_;rw[hk,eS];exact kN (a:=((.next,gH ns bg T (aC a v) v),FF (.list [] []) (aC a v) w' [.list [] []])) (by rcases hv with rfl|⟨b,rfl⟩|⟨i,rfl⟩<;>kernel_rfl) (gY (by rcases hv with rfl|⟨b,rfl⟩|⟨i,rfl⟩<;>kernel_rfl)) ⟨rfl,hh⟩
 induction d using bu.casesOn with
 |val x=>
  have hu:u=aC "value" x.v:=hw;subst hu;exact plain _ _ (by induction x using Val.casesOn;exact .inl rfl;exact .inr (.inl ⟨_,rfl⟩);exact .inr (.inr ⟨_,rfl⟩)) (pP _ rfl)
 |raise z=>
  obtain⟨e,ce,hz,hu⟩:=hw;subst hu;induction z using Rz.casesOn with
  |int i=>
   have he:e=.int i:=hz;subst he;exact plain _ _ (.inr (.inr ⟨i,rfl⟩)) (pP _ rfl)
  |str s=>
   obtain⟨t,a1,a2,a3,o1,x,es,rfl⟩:=hz;obtain⟨xv,hxv,es2⟩:=Gq;have ly:t.length≤20:=by
    obtain⟨_,h2⟩:=IA hxv;have e1:=congrArg Str.length (es.symm.trans es2);rw[strLen_append,strLen_append]at e1;lia
   refine yv (S:=fun _ _ _ _ _=>False) (as:=[]) (ev:=cX (bN p w K) 60) Sd hX ?_;rw[hk,eS];refine kN (a:=((.next,gH ns bg T (aC "raise" (Ce a1 a2 a3 o1 x t)) (Ce a1 a2 a3 o1 x t)),FF (.list [] []) (aC "raise" (Ce a1 a2 a3 o1 x t)) w' [.list [] []])) kr (gY kr) ⟨rfl, ?_⟩;refine yv (S:=fun _ _ _ _ _=>False) (as:=[]) (ev:=cX (bN p w K) 60) Sd hX ?_;rw[hk,eS];have el:((("NoMatchingPatternError":Str)++(" ":Str))++t).length≤16777216:=by
    have e1:(("NoMatchingPatternError":Str)++(" ":Str)).length=23:=by decide+kernel
    rw[strLen_append];lia
   have ee:(("NoMatchingPatternError":Str)++(" ":Str))++t="NoMatchingPatternError "++t:=by
    have e1:(("NoMatchingPatternError":Str)++(" ":Str))=("NoMatchingPatternError ":Str):=by decide+kernel
    rw[e1]
   refine kN (a:=((.next,gH ns bg T (aC "raise" (Ce a1 a2 a3 o1 x t)) (.str ((("NoMatchingPatternError":Str)++(" ":Str))++t))),FF (.list [] []) (aC "raise" (Ce a1 a2 a3 o1 x t)) w' [.list [] []])) kr (nd (p:=23≤16777216∧((("NoMatchingPatternError":Str)++(" ":Str))++t).length≤16777216∧True) kr ⟨by decide,el,trivial⟩) ⟨rfl, ?_⟩;rw[ee];subst es;exact pP _ rfl
end
section
variable{st:St}
theorem ON(H:au cx (k+1) A I σ st s)(r:Reads s.heap (.ref a) d as)(ok:lM B d)(hB:10*B+8≤sizeLine)(hd:d.depth≤3)
  (h:∀s' t,aM cx.P (fun _=>False) I σ st.length s.heap I σ st s'.heap→bw s s'→Q (.str d.shown t) s'):wpAny cx.M A (call (.builtin "repr") [.ref a]) Q E s:=by
 have hl:=ok.len;refine repr_of_reads' (h₀:=s.heap) r ok.sh (PyData.noDict_hsm ok.nd) H.fit.guards ?_ (fun _ _ e=>e) (fun h' u tk kp=>h {s with heap:=h',toks:=tk} u (aM.grow H.rel kp) ⟨rfl,rfl,rfl⟩) (by exact qy ‹_› ‹_›);have:=H.fit.units;lia
theorem Dq(Sd:aU cx ev)(H:au cx (k+1) A I σ st s)(l:av cx.P fe m env I σ st.length s.heap)(hp:uq aE=true)(he:eval (.Call fE [aE] [] pos) env=(do callWith pos (←eval fE env) [] (backTo pos (starEach [aE] env)) (backToKw pos (keywordEach [] env))))
  (g1:iM (ev.e (k+1) fe m st fE)=true)(g2:jb (ev.e (k+1) fe m st fE))(g3:rY (ev.e (k+1) fe m st fE)=.bi .repr)(g4:rZ (ev.e (k+1) fe m st fE)=st)
  (ha:∀I1 jt s1,aM cx.P (fun _=>False) I σ st.length s.heap I1 jt st s1.heap→bw s s1→au cx (k+1) A I1 jt st s1→av cx.P fe m env I1 jt st.length s1.heap→wpAny cx.M A (eval aE env) (fun y s2=>∃I2 fG st2 a d as B,y=.ref a∧aM cx.P (fun _=>False) I1 jt st.length s1.heap I2 fG st2 s2.heap∧bw s1 s2∧
   au cx (k+1) A I2 fG st2 s2∧Reads s2.heap (.ref a) d as∧lM B d∧10*B+8≤sizeLine∧d.depth≤3∧(∀s3 t,aM cx.P (fun _=>False) I2 fG st2.length s2.heap I2 fG st2 s3.heap→bw s2 s3→Q (.str d.shown t) s3)) E s1):wpAny cx.M A (eval (.Call fE [aE] [] pos) env) Q E s:=by
 refine Call_ (kD Sd H l g1 g2 g3 g4 fun I1 jt s1 yf x1 xw H1 l1 r1=> ?_) he;have Sb:ic [aE]=true:=by unfold ic;rw[hp];rfl
 refine vF (f:=.bi .repr) Sb rfl H1 r1 ?_;refine args_cons (wpAny_mono (ha I1 jt s1 x1 xw H1 l1) (fun y s2 hy=> ?_) fun _ _ x=>x) (eX _ _ hp);obtain⟨I2,fG,st2,a,d,as,B,rfl,x2,Bh,H2,rd,ok,hB,hd,hq⟩:=hy;refine args_nil ⟨fun b o e=>H2.rel.sub b o (x2.le.i b o e), ?_⟩;cases r1.inv
 exact ON H2 rd ok hB hd hq
end
noncomputable def YH(s:Stmt):Expr:=match s with
 |.Return e _=>match e with
  |some e=>e
  |none=>default
 |_=>default
noncomputable def abx(s:Stmt):Pos:=match s with
 |.Return _ p=>p
 |_=>default
noncomputable def ZT(e:Expr):List Expr:=match e with
 |.BoolOp _ l _=>l
 |_=>[]
noncomputable def ZU(e:Expr):Pos:=match e with
 |.BoolOp _ _ p=>p
 |_=>default
noncomputable def aby(e:Expr):Expr:=match e with
 |.Compare l _ _ _=>l
 |_=>default
noncomputable def abz(e:Expr):Expr:=match e with
 |.Compare _ _ rs _=>zO rs 0
 |_=>default
noncomputable def YI(e:Expr):Pos:=match e with
 |.Compare _ _ _ p=>p
 |_=>default
noncomputable def cE(i:Nat):Expr:=zO (ZT (YH (fy 7))) i
noncomputable def lE(i:Nat):Expr:=aby (cE i)
noncomputable def rE(i:Nat):Expr:=abz (cE i)
noncomputable def ue(e:Expr):Expr:=zO (sH e) 0
theorem ZV:fy 7=.Return (some (.BoolOp .And [.Compare (.Call (mW (lE 0)) [ue (lE 0)] [] (vG (lE 0))) [.Eq] [.Call (mW (rE 0)) [ue (rE 0)] [] (vG (rE 0))] (YI (cE 0)),.Compare (.Call (mW (lE 1)) [ue (lE 1)] [] (vG (lE 1))) [.Eq] [.Call (mW (rE 1)) [ue (rE 1)] [] (vG (rE 1))] (YI (cE 1)),cE 2] (ZU (YH (fy 7))))) (abx (fy 7)):=kr
theorem Vr:jJ rW=[fy 0,fy 1,fy 2,fy 3,fy 4,fy 5,fy 6,fy 7]:=kr
section
variable{st:St}
theorem Q4(x:Str):seq x x=true:=by
 induction h:seq x x using qd with
 |true=>rfl
 |false=>exact absurd rfl (iE.mp h)
theorem Q5(H:au cx k A I σ st s)(h:∀t',Q (.bool true) {s with toks:=t'}):wpAny cx.M A (compareOp .Eq (.str x t) (.str x u)) Q E s:=
 Ec (a:=.str x) (b:=.str x) (v:=.bool true) H (.str x t) (.str x u) (by show some (V.bool (seq x x))=_;rw[Q4]) fun y t' r=>by cases r.inv;exact h t'
def xB(cx:Cx)(k:Nat)(A:Around)(fe:FE)(m:ai)(env:Env)(E:dS)(a:Expr)(st st2:St)(d:PyData):Prop:=
 ∀I σ s,au cx k A I σ st s→av cx.P fe m env I σ st.length s.heap→wpAny cx.M A (eval a env) (fun y s2=>∃I2 fG b as B,y=.ref b∧aM cx.P (fun _=>False) I σ st.length s.heap I2 fG st2 s2.heap∧bw s s2∧Reads s2.heap (.ref b) d as∧lM B d∧10*B+8≤sizeLine∧d.depth≤3) E s
theorem Bl{ev:Ev}{f1 f2 a1 a2:Expr}(Sd:aU cx ev)(H:au cx (k+1) A I σ st s)(l:av cx.P fe m env I σ st.length s.heap)(Di:uq a1=true)(YJ:uq a2=true)(he1:eval (.Call f1 [a1] [] p1) env=(do callWith p1 (←eval f1 env) [] (backTo p1 (starEach [a1] env)) (backToKw p1 (keywordEach [] env))))(he2:eval (.Call f2 [a2] [] p2) env=(do callWith p2 (←eval f2 env) [] (backTo p2 (starEach [a2] env)) (backToKw p2 (keywordEach [] env))))
  (f11:iM (ev.e (k+1) fe m st f1)=true)(f12:jb (ev.e (k+1) fe m st f1))(f13:rY (ev.e (k+1) fe m st f1)=.bi .repr)(f14:rZ (ev.e (k+1) fe m st f1)=st)
  (f21:iM (ev.e (k+1) fe m st f2)=true)(f22:jb (ev.e (k+1) fe m st f2))(f23:rY (ev.e (k+1) fe m st f2)=.bi .repr)(f24:rZ (ev.e (k+1) fe m st f2)=st)
  (h1:xB cx (k+1) A fe m env E a1 st st d)(h2:xB cx (k+1) A fe m env E a2 st st2 d)
  (h:∀I3 kg s3,aM cx.P (fun _=>False) I σ st.length s.heap I3 kg st2 s3.heap→bw s s3→Q (.bool true) s3):
  wpAny cx.M A (eval (.Compare (.Call f1 [a1] [] p1) [.Eq] [.Call f2 [a2] [] p2] pc) env) Q E s:=by
 refine wpAny_Compare1 (Dq Sd H l Di he1 f11 f12 f13 f14 fun I1 jt s1 x1 xw H1 l1=>wpAny_mono (h1 I1 jt s1 H1 l1) (fun y s2 hy=> ?_) fun _ _ x=>x) (by rfl);obtain⟨I2,fG,b,as,B,rfl,x2,Bh,rd,ok,hB,hd⟩:=hy;refine⟨I2,fG,st,b,d,as,B,rfl,x2,Bh,H1.go x2,rd,ok,hB,hd,fun s3 t x3 Gk=> ?_⟩;have YK:=(x1.trans x2).trans x3;have l3:=l.ext YK;have H3:=H.go YK;refine Dq Sd H3 l3 YJ he2 f21 f22 f23 f24 fun I4 σ4 s4 x4 OH H4 l4=>wpAny_mono (h2 I4 σ4 s4 H4 l4) (fun y s5 hy=> ?_) fun _ _ x=>x;obtain⟨I5,Gg,b',SN,B',rfl,x5,SX,rd',fS,hB',VK⟩:=hy;refine⟨I5,Gg,st2,b',d,SN,B',rfl,x5,SX,H4.go x5,rd',fS,hB',VK,fun s6 t' x6 Oz=> ?_⟩;have x16:=((YK.trans x4).trans x5).trans x6;refine Q5 (H.go x16) fun t''=>h I5 Gg {s6 with toks:=t''} x16 ?_;exact(((((xw.trans Bh).trans Gk).trans OH).trans SX).trans Oz).trans ⟨rfl,rfl,rfl⟩
end
theorem ZW(d:bu):V.tup [.str (gG d),jY d]=d.v:=by induction d using bu.casesOn<;>rfl
theorem tP(d:bu):d.d.depth≤3:=by
 induction d using bu.casesOn with
 |val x=>induction x using Val.casesOn<;>exact rF
 |raise z=>induction z using Rz.casesOn<;>exact rF
theorem G3(ms:List Mark):(PyData.list (ms.map Mark.d)).depth≤3:=by
 have h:PyData.depthAll (ms.map Mark.d)≤1:=by
  induction ms with
  |nil=>exact nz
  |cons m ms ih=>
   have hm:m.d.depth≤1:=by
    induction m using Mark.casesOn with
    |made i=>exact qf _
    |asked a b=>induction a using Val.casesOn<;>induction b using Val.casesOn<;>simp[Mark.d,Val.d,PyData.depth,PyData.depthAll]
    |guard i=>exact qf _
    |bound n b=>induction b using Val.casesOn<;>exact rF
   simp only[List.map_cons,PyData.depthAll];lia
 simp only[PyData.depth];lia
section
variable{K:Frag}{B:Bs}
noncomputable abbrev lN(d:bu)(v0:V)(ms:List Mark)(wt wl:Int)(md:ai)(wo wm:Value)(zb:List V):St:=FF (.list [] []) (aC (gG d) v0) ⟨ms.map Mark.v,wt,wl,md,wo,wm⟩ [.list [] zb]
section
variable{ns:List Int}{ms:List Mark}{wo wm:Value}{A:Around}{env:Env}{E:dS}
theorem OO(Gq:o7 d):xB (az p w K 20) (k+99+1) A bP (gH ns bg T (aC (gG d) v0) (jY d)) env E (ue (lE 0)) (lN d v0 ms wt wl md wo wm zb) (lN d v0 ms wt wl md wo wm zb) d.d:=by
 intro I σ s H l;have Sd:=eY (yg p w K 20) 60;have g1:iM ((cX (az p w K 20) 60).e (k+99+1) bP (gH ns bg T (aC (gG d) v0) (jY d)) (lN d v0 ms wt wl md wo wm zb) (ue (lE 0)))=true:=kr;have g2:jb ((cX (az p w K 20) 60).e (k+99+1) bP (gH ns bg T (aC (gG d) v0) (jY d)) (lN d v0 ms wt wl md wo wm zb) (ue (lE 0))):=gY kr;have g3:rY ((cX (az p w K 20) 60).e (k+99+1) bP (gH ns bg T (aC (gG d) v0) (jY d)) (lN d v0 ms wt wl md wo wm zb) (ue (lE 0)))=.tup [.str (gG d),jY d]:=kr;have g4:rZ ((cX (az p w K 20) 60).e (k+99+1) bP (gH ns bg T (aC (gG d) v0) (jY d)) (lN d v0 ms wt wl md wo wm zb) (ue (lE 0)))=lN d v0 ms wt wl md wo wm zb:=kr;refine kD (cx:=az p w K 20) Sd H l g1 g2 g3 g4 fun I1 jt s1 y x sm H1 l1 r=> ?_;rw[ZW]at r;have rd:=Dp H1.rel.sub r;induction d using bu.casesOn with
 |val x0=>induction r.inv using iW.casesOn;exact⟨I1,jt,_,[],200,rfl,x,sm,rd,DS Gq,by rw[sizeLine_eq];simp,tP _⟩
 |raise z0=>induction r.inv using iW.casesOn;exact⟨I1,jt,_,[],200,rfl,x,sm,rd,DS Gq,by rw[sizeLine_eq];lia,tP _⟩
theorem KY(hl:ms.length≤288)(lY:Tree.ok 3 T)(hr:Tree.rd 3 T=(ms,d))(Gq:o7 d):xB (az p w K 20) (k+99+1) A bP (gH ns bg T (aC (gG d) v0) (jY d)) env E (ue (rE 0)) (lN d v0 ms wt wl md wo wm []) (lN d v0 ms wt wl md wo wm (ms.map Mark.v)) d.d:=by
 intro I σ s H l;have Sd:=eY (yg p w K 20) 60;have ev:(cR.tree 3 T).val=d.v:=by show(Tree.rd 3 T).2.v=_;rw[hr]
 have em:(cR.tree 3 T).marks=ms:=by show(Tree.rd 3 T).1=_;rw[hr]
 refine Sd.e H l (Gd.out (S:=dR 20) (pre:=aI) ?_);refine yj (.tree 3 T) 8 (by show 6<20;decide) kr (gY kr) (k+100) kr (qg 26 (k+74)) lY (mk:=[]) kr (DL rfl (by rw[em];show 0+_≤400;lia)) ?_;rw[ev,show cR.all (.tree 3 T) []=ms.map Mark.v from congrArg (List.map Mark.v) em];refine kN (a:=(d.v,lN d v0 ms wt wl md wo wm (ms.map Mark.v))) kr (gY kr) ?_;intro I1 jt y s1 x sm r;have rd:=Dp x.rel.sub r;induction d using bu.casesOn with
 |val x0=>induction r.inv using iW.casesOn;exact⟨I1,jt,_,[],200,rfl,x,sm,rd,DS Gq,by rw[sizeLine_eq];lia,tP _⟩
 |raise z0=>induction r.inv using iW.casesOn;exact⟨I1,jt,_,[],200,rfl,x,sm,rd,DS Gq,by rw[sizeLine_eq];lia,tP _⟩
theorem Bm(hl:ms.length≤288)(okm:ye ms)(hj:(lN d v0 ms wt wl md wo wm (ms.map Mark.v))[j]? =some (.list [] (ms.map Mark.v)))
  (g1:iM ((cX (az p w K 20) 60).e (k+99+1) bP (gH ns bg T (aC (gG d) v0) (jY d)) (lN d v0 ms wt wl md wo wm (ms.map Mark.v)) a)=true)(g2:jb ((cX (az p w K 20) 60).e (k+99+1) bP (gH ns bg T (aC (gG d) v0) (jY d)) (lN d v0 ms wt wl md wo wm (ms.map Mark.v)) a))
  (g3:rY ((cX (az p w K 20) 60).e (k+99+1) bP (gH ns bg T (aC (gG d) v0) (jY d)) (lN d v0 ms wt wl md wo wm (ms.map Mark.v)) a)=.loc j)(g4:rZ ((cX (az p w K 20) 60).e (k+99+1) bP (gH ns bg T (aC (gG d) v0) (jY d)) (lN d v0 ms wt wl md wo wm (ms.map Mark.v)) a)=lN d v0 ms wt wl md wo wm (ms.map Mark.v)):
  xB (az p w K 20) (k+99+1) A bP (gH ns bg T (aC (gG d) v0) (jY d)) env E a (lN d v0 ms wt wl md wo wm (ms.map Mark.v)) (lN d v0 ms wt wl md wo wm (ms.map Mark.v)) (.list (ms.map Mark.d)):=by
 intro I σ s H l;refine kD (cx:=az p w K 20) (eY (yg p w K 20) 60) H l g1 g2 g3 g4 fun I1 jt s1 y x sm H1 l1 r=> ?_;induction r.inv using iH.casesOn
 obtain⟨ob,g,gC⟩:=H1.rel.cells j _ hj;exact⟨I1,jt,_,_,201*ms.length,rfl,x,sm,G2 H1.rel.sub g gC,YF okm,by rw[sizeLine_eq];lia,G3 ms⟩
end
theorem YL{ns:List Int}{T:Tree 3}(lY:Tree.ok 3 T)(hu:u=aC (gG (Tree.rd 3 T).2) v0)(hm:w'.aa=(Tree.rd 3 T).1.map Mark.v)(hk:L.k=k+100)(eS:L.fe=bP)(hX:∀b,aF L.env b→B.X b)
  (hQ:∀I σ n s,fJ 0 B I σ n s→m9 L false I σ n s→L.Q (.ret (.bool true)) s):g7 p w K L B false (FF (.list [] []) u w' [.list [] []]) (gH ns bg T u (jY (Tree.rd 3 T).2)) [fy 7]:=by
 have bX:=mJ lY;generalize hr:Tree.rd 3 T=r at*;obtain⟨ms,d⟩:=r;dsimp only at*;subst hu;have ly:ms.length≤288:=bX.k.l;obtain⟨aa,wt,wl,md,wo,wm⟩:=w';dsimp only at hm;subst hm;refine⟨fun I σ s W H l ti=> ?_⟩;have Sd:=eY (yg p w K 20) 60;have Hc:au (az p w K 20) (k+99+1) L.A I σ (FF (.list [] []) (aC (gG d) v0) ⟨ms.map Mark.v,wt,wl,md,wo,wm⟩ [.list [] []]) s:=(show au (bN p w K) (k+100) L.A I σ _ s from hk▸H).cx;have l0:av w.params bP (gH ns bg T (aC (gG d) v0) (jY d)) L.env I σ (FF (.list [] []) (aC (gG d) v0) ⟨ms.map Mark.v,wt,wl,md,wo,wm⟩ [.list [] []]).length s.heap:=eS▸l;rw[ZV];refine wpAny_execs_cons (wpAny_Return_some (BoolOp_and ?_));refine Bl (cx:=az p w K 20) (d:=d.d) (st2:=lN d v0 ms wt wl md wo wm (ms.map Mark.v)) Sd Hc l0 kr kr (by rfl) (by rfl) kr (gY kr) kr kr kr (gY kr) kr kr (OO bX.w) (KY ly lY hr bX.w) fun I1 jt s1 x1 xw=> ?_;refine wpAny_truthy_bool ?_;show wpAny _ _ (eval (.BoolOp .And _ _) _) _ _ _;refine BoolOp_and ?_;have H1:=Hc.go x1;have l1:=l0.ext x1;refine Bl (cx:=az p w K 20) (d:=.list (ms.map Mark.d)) (st2:=lN d v0 ms wt wl md wo wm (ms.map Mark.v)) Sd H1 l1 kr kr (by rfl) (by rfl) kr (gY kr) kr kr kr (gY kr) kr kr
  (Bm (j:=5) ly bX.k.m rfl kr (gY kr) kr kr) (Bm (j:=8) ly bX.k.m rfl kr (gY kr) kr kr) fun I2 fG s2 x2 Bh=> ?_
 refine wpAny_truthy_bool ?_;show wpAny _ _ (eval (.BoolOp .And _ _) _) _ _ _;refine BoolOp_one ?_;have H2:=H1.go x2;have l2:=l1.ext x2;have g1:iM ((cX (az p w K 20) 60).e (k+99+1) bP (gH ns bg T (aC (gG d) v0) (jY d)) (lN d v0 ms wt wl md wo wm (ms.map Mark.v)) (cE 2))=true:=kr;have g2:jb ((cX (az p w K 20) 60).e (k+99+1) bP (gH ns bg T (aC (gG d) v0) (jY d)) (lN d v0 ms wt wl md wo wm (ms.map Mark.v)) (cE 2)):=gY kr;have g3:rY ((cX (az p w K 20) 60).e (k+99+1) bP (gH ns bg T (aC (gG d) v0) (jY d)) (lN d v0 ms wt wl md wo wm (ms.map Mark.v)) (cE 2))=.bool true:=kr;refine kD (cx:=az p w K 20) Sd H2 l2 g1 g2 g3 rfl fun I3 kg s3 y x3 Gk H3 l3 r3=> ?_;cases r3.inv
 have x:=(x1.trans x2).trans x3;exact hQ _ _ _ _ (W.step (qm _) (fun b (q:False)=>q.elim) x ((xw.trans Bh).trans Gk)) (ti.go x fun q=>q)
end
section
variable{K:Frag}
theorem Q6{ns:List Int}(hl:ns.length≤63)(hk:L.k=k+100)(eS:L.fe=bP)(hX:∀b,aF L.env b→B.X b)(OG:B.X L.T)(kb:KB B.I 1265 L.T)
  (hQ:∀I σ n s,fJ 0 B I σ n s→m9 L false I σ n s→L.Q (.ret (.bool true)) s):g7 p w K L B true [] (KO ns) (jJ rW):=by
 rw[Vr];refine X3 hl hk eS hX fun o eN=> ?_;refine X6 eN hk eS hX fun T y lY=> ?_;refine Yx hk eS hX OG kb fun q out main=> ?_;refine Yy lY hk eS hX fun Yz pb e=> ?_;have bX:=mJ lY;have hm:mB 3=288:=by decide
 refine YD lY (by have:=bX.k.l;exact wg ‹_›) e hk eS hX fun u w' en=> ?_;refine YG en.way bX.w hk eS hX fun v0 hu=> ?_;exact YL lY hu (by rw[en.aa];rfl) hk eS hX hQ
end
section
variable{K:Frag}
set_option backward.match.sparseCases true in
theorem Q7{ns:List Int}(hl:ns.length≤63)(H:au (bN p w K) (k+101) A I σ [] s)(kb:KB I 1265 T)(iT:I T=none)(tT:s.heap.get? T=some (tabObj #[]))(ry:aq I w.params σ 0 (.lst (ns.map V.num)) y)
  (hQ:∀s',(∀b o,s.heap.get? b=some o→b≠T→s'.heap.get? b=some o)→bw s s'→(∃ps,s'.heap.get? T=some (tabObj ps))→Q (.bool true) s'):
  wpAny (model p w) A (call (.ref 1273) [y]) Q E s:=by
 obtain⟨⟨o,h1,h2,h3⟩,hc,gl,bl,cl,df⟩:=H.base.fns 1273 rW [] (ri (a:=1273) kr);have H1:au (bN p w K) (k+100+1) A I σ [] s:=H;refine zN (E:=E) (m:=KO ns) (body:=jJ rW) H1 h1 h3 gl bl hc cl kr (.cons ry .nil) kr kr kr fun env s₁ he rQ kp sm hf lo E'=> ?_
 let X:Addr→Prop:=fun b=>b=T∨s.heap.get? b=none
 let L:LW:=⟨k+100,A.deeper env,bP,env,fun f s'=>Q (match f with|.ret v=>v|_=>.none) s',E',T⟩
 have hX:∀b,aF L.env b→X b:=fun b hb=>.inr (rQ b hb);have oT:¬aF env T:=fun q=>by rw[rQ T q]at tT;exact nn tT
 have at0:=Q6 (p:=p) (w:=w) (K:=K) (L:=L) (B:=⟨X,I,σ,s⟩) hl rfl rfl hX (.inl rfl) kb fun I' af n s' W t=>by
  show Q (.bool true) s';refine hQ s' (fun b o e hb=>W.keep b o e (fun q=> ?_) fun j hj=>absurd hj (qr _)) W.same ((by obtain⟨ps,h,_⟩:=t.t;exact⟨ps,h⟩));rcases q with q|q
  ·exact hb q
  ·have q:s.heap.get? b=none:=q;rw[e]at q;cases q
 have W0:fJ 0 ⟨X,I,σ,s₁⟩ I σ 0 s₁:=fJ.refl 0 ⟨X,I,σ,s₁⟩ 0 fun j h1 h2=>absurd h2 (qr _);exact at0.out I σ s₁ (W0.back kp sm) ⟨hf,H.base,(aM.grow H.rel kp).rel⟩ lo ⟨iT,fun j hj=>absurd hj (qr _),oT,_,kp _ _ tT,fun _=>rfl⟩
end
end
noncomputable def xC:Nat→(Nat→Obj)→Nat→BT
 |0,_,_=>.nil
 |f+1,g,n=>match n with
  |0=>.nil
  |n+1=>.node (g 0) (xC f (fun i=>g (Nat.succ (Nat.mul 2 i))) (Nat.div (Nat.succ n) 2)) (xC f (fun i=>g (Nat.succ (Nat.succ (Nat.mul 2 i)))) (Nat.div n 2))
theorem Vs(f:Nat):∀(g:Nat→Obj) (n a:Nat),n<2^f→a<n→(xC f g n).get a=some (g a):=by
 induction f with
 |zero=>exact fun g n a h ha=>absurd (qz ha (qM h)) (qr _)
 |succ f ih=>
  intro g n a h ha;induction n using qk with
  |zero=>exact absurd ha (qr _)
  |succ n=>
   have p2:n+1<2^f*2:=h;refine(BT.get_node ..).trans ?_;by_cases h0:a=0
   ·rw[if_pos h0,h0]
   ·rw[if_neg h0];have e:=Nat.div_add_mod' a 2;rcases Nat.mod_two_eq_zero_or_one a with h1|h1
    ·rw[if_neg (by rw[h1];decide)];rw[h1]at e;have d:a/2-1+1=a/2:=Nat.sub_add_cancel (Nat.pos_of_ne_zero fun z=>h0 (by rw[←e,z]));refine(ih _ (Nat.div n 2) (a/2-1) ((Nat.div_lt_iff_lt_mul Nat.zero_lt_two).mpr (qG p2)) (qy (qA d) ((Nat.le_div_iff_mul_le Nat.zero_lt_two).mpr (qy (qA e) (qM ha))))).trans (congrArg (fun i=>some (g i)) ?_);exact(Nat.mul_comm ..).trans ((congrArg (· *2) d).trans e)
    ·rw[if_pos h1];rw[h1]at e;refine(ih _ (Nat.div (Nat.succ n) 2) (a/2) ((Nat.div_lt_iff_lt_mul Nat.zero_lt_two).mpr p2) ((Nat.le_div_iff_mul_le Nat.zero_lt_two).mpr (qy (qA ((Nat.succ_mul ..).trans (congrArg Nat.succ e))) ha))).trans (congrArg (fun i=>some (g i)) ?_);exact(congrArg Nat.succ (Nat.mul_comm ..)).trans e
noncomputable def S9(a:Nat):List (Nat×Obj)→Option Obj
 |[]=>none
 |p::l=>mX (Nat.beq a p.1) (some p.2) (S9 a l)
noncomputable def vH(L:List (Nat×Obj))(g:Nat→Obj)(a:Nat):Obj:=match S9 a L with
 |some o=>o
 |none=>g a
theorem Vt:S9 a L=some o→(a,o)∈L:=by
 induction L with
 |nil=>exact nn
 |cons q l ih=>exact fun h=>jj h (fun b e=>by rw[qt b,←qc e];exact .head _) fun _ e=>.tail _ (ih e)
theorem Gr(hn:n<2^f)(h:∀p∈L,T.get p.1=some p.2):absHeap T n life=absHeap (xC f (vH L fun i=>(T.get i).getD default) n) n life:=by
 unfold absHeap BT.list
 congr 2
 refine List.map_congr_left fun i hi=> ?_;rw[Vs f _ n i hn (List.mem_range.mp hi)];unfold vH;induction e:S9 i L using qe with
 |some o=>rw[h _ (Vt e)]
 |none=>rfl
noncomputable def Gs:Env:={scope:=PySem.Challenge.pw_on0142_01.main.scope,locals:=mainNs,globals:=mainNs,cells:=[],code:=.ref 13,frame:=some 14}
noncomputable def rg:Code:=.body (behindTheImports PySem.Challenge.pw_on0142_01) Gs
noncomputable def ZX:=PySem.W.Fast.tw10110043849684766642
noncomputable def YM:=PySem.W.Fast.tw14364793385576792824
noncomputable def e(P:Params)(n:Str)(t:Tok)(v:Value):DictEntry:=⟨PyData.keyHash P n,.str n t,v⟩
noncomputable def dO(es:List DictEntry)(n:Nat):Obj:={cls:=.type "dict",data:=.dict es.toArray n}
noncomputable def tO(vs:List Value):Obj:={cls:=.type "tuple",data:=.seq vs.toArray 0}
noncomputable def cN:List Str→Nat→List Value
 |[],_=>[]
 |x::l,t=>.str x t::cN l (Nat.succ t)
noncomputable def kO(n:Str)(bases mro:List Value)(ns:Nat)(abA:List Value)(sl:Array (Option Value)):Obj:=
 {cls:=.type "type",data:=.cls {name:=n,bases:=bases,mro:=mro,ns:=ns,qualname:=n,hasDict:=true,slotNames:=[],subclasses:=abA,abstract:=false,collection:=none,hasDel:=false},slots:=sl}
noncomputable def Tc(fd:FuncData):Obj:={cls:=.type "function",data:=.func fd}
noncomputable def jL(v:Value):List DictEntry→List DictEntry
 |[]=>[]
 |x::l=>⟨x.hash,x.key,v⟩::l
noncomputable def sI:List (Nat×Nat)→List Value
 |[]=>[]
 |x::l=>.int x.1 0::.int 0 0::.ref x.2::sI l
noncomputable def Ck(d:Data):Option (Array Value):=match d with
 |.fields vs=>some vs
 |_=>none
noncomputable def YN(v:Value):Option Str:=match v with
 |.str q _=>some q
 |_=>none
noncomputable def vI(o:Option Obj):Option Str:=cC o fun o=>cC (Ck o.data) fun vs=>cC vs[1]? YN
noncomputable def KZ(v:Value):Option Nat:=match v with
 |.ref c=>some c
 |_=>none
noncomputable def K0(fd:FuncData):Nat:=(KZ fd.code).getD 0
noncomputable def zQ:List (Nat×Str):=rX.map fun f=>(K0 f.2.1,f.2.1.qualname)
noncomputable def we{α:Type}(lo hi:Nat):List (Nat×α)→List (Nat×α)
 |[]=>[]
 |q::l=>mX (Nat.ble lo q.1) (mX (Nat.blt q.1 hi) (q::we lo hi l) (we lo hi l)) (we lo hi l)
noncomputable def OP:Obj:={cls:=.none,dict:=none,data:=.fields #[]}
noncomputable def xD:Obj:={cls:=.type "code",dict:=none,data:=.fields #[.str "_law_kinds" 2259,.str "_law_kinds" 2260,.str "/claim/cut.py" 2261,.int 914 0,.int 1 0,.int 0 0,.int 0 0,.int 3 0,.ref 1260,.bool true,.int 181 0,.ref 1261,.none,.ref 1262,.ref 1263,.ref 1264,.int 2271 0,.int 914 0,.str "/claim/cut.py" 2272]}
noncomputable def YO:Obj:={cls:=.none,dict:=none,data:=.fields #[]}
noncomputable def YQ:Obj:={cls:=.type "code",dict:=none,data:=.fields #[.str "law" 2274,.str "law" 2275,.str "/claim/cut.py" 2276,.int 942 0,.int 1 0,.int 0 0,.int 0 0,.int 3 0,.ref 1267,.bool true,.int 181 0,.ref 1268,.none,.ref 1269,.ref 1270,.ref 1271,.int 2285 0,.int 942 0,.str "/claim/cut.py" 2286]}
noncomputable def Cm:List (Nat×List Value):=[(23,cN ["+","-","*","/","%","**","==","!=","<",">","<=",">=","<=>","===","[]","[]=","<<",">>","!","~","+@","-@","&","|","^","=~","!~"] 230),
 (52,cN [""] 307),
 (72,[.none]),
 (130,[.none,.none,.bool false]),
 (150,[]),
 (151,[.none,.none,.none,.none,.ref 150,.none,.none,.bool false,.none]),
 (171,[.none]),
 (191,[.none]),
 (211,[.none,.bool false,.none,.none]),
 (259,[.int 12 258]),
 (338,[.int 6 703]),
 (353,cN [""] 727),
 (431,[.none,.none]),
 (453,[.none]),
 (496,[.none,.str "call" 931,.none]),
 (596,[]),
 (597,[]),
 (598,[]),
 (599,[]),
 (600,[]),
 (601,cN ["value"] 1077),
 (602,cN ["name"] 1080),
 (603,cN ["text"] 1083),
 (604,cN ["parts"] 1086),
 (605,cN ["items"] 1089),
 (606,cN ["pairs"] 1092),
 (607,cN ["first","last","open"] 1095),
 (608,cN ["value"] 1100),
 (609,cN ["name"] 1103),
 (610,cN ["name"] 1106),
 (611,cN ["name"] 1109),
 (612,cN ["scope","name"] 1112),
 (614,cN ["name"] 1116),
 (615,cN ["name"] 1119),
 (616,cN ["name"] 1122),
 (617,cN ["name"] 1125),
 (618,cN ["receiver","args"] 1128),
 (619,cN ["receiver","name"] 1132),
 (620,cN ["target"] 1136),
 (621,cN ["targets"] 1139),
 (622,cN ["target","value"] 1142),
 (623,cN ["targets","value"] 1146),
 (624,cN ["target","op","value"] 1150),
 (625,cN ["receiver","name","args","block","safe"] 1155),
 (626,cN ["name"] 1162),
 (627,cN ["params","body"] 1165),
 (628,cN ["value"] 1169),
 (629,cN ["left","right"] 1172),
 (630,cN ["left","right"] 1176),
 (632,cN ["value"] 1180),
 (633,cN ["args","block"] 1183),
 (634,cN ["args"] 1187),
 (635,cN ["params","body"] 1190),
 (636,cN ["value"] 1194),
 (637,cN ["items"] 1197),
 (638,cN ["test","yes","no"] 1200),
 (639,cN ["test","body","negate"] 1205),
 (640,cN ["subject","whens","other"] 1210),
 (641,cN ["subject","arms","other"] 1215),
 (642,cN ["value","pattern"] 1220),
 (643,cN ["value","pattern"] 1224),
 (644,cN ["body","rescues","other","ensure"] 1228),
 (645,cN ["value"] 1234),
 (646,cN ["value"] 1237),
 (647,cN ["value"] 1240),
 (648,cN ["singleton","name","params","body"] 1243),
 (650,cN ["name","superclass","body"] 1249),
 (651,cN ["name","body"] 1253),
 (652,cN ["value","body"] 1256),
 (653,cN ["new","old"] 1259),
 (654,cN ["name"] 1262),
 (655,cN ["value"] 1264),
 (656,cN ["name"] 1266),
 (657,cN ["value"] 1268),
 (658,cN ["patterns"] 1270),
 (659,cN ["pattern","name"] 1272),
 (660,cN ["const","pre","rest","post"] 1275),
 (661,cN ["const","pairs","rest"] 1280),
 (669,[]),
 (670,[.ref 669,.int 0 1308]),
 (846,cN ["Kernel","Comparable","Enumerable"] 1564),
 (851,cN ["Kernel"] 1686),
 (852,cN ["Comparable"] 1688),
 (853,cN ["Comparable"] 1690),
 (854,cN ["Comparable"] 1692),
 (855,cN ["Enumerable"] 1694),
 (856,cN ["Enumerable"] 1696),
 (857,cN ["Enumerable"] 1698),
 (866,[.none,.none,.int 20000 1726]),
 (928,[.none,.none,.none])]
noncomputable def Gu(P:Params):List (Nat×List DictEntry×Nat):=[(61,[e P "__module__" 302 (.str "gemrows.things" 194),e P "__firstlineno__" 306 (.int 17 305),e P "__init__" 317 (.ref 59),e P "__static_attributes__" 319 (.ref 60),e P "__doc__" 320 .none],2),
 (81,[e P "__module__" 330 (.str "gemrows.things" 194),e P "__firstlineno__" 334 (.int 22 333),e P "__init__" 344 (.ref 79),e P "__static_attributes__" 346 (.ref 80),e P "__doc__" 347 .none],2),
 (119,[e P "__module__" 357 (.str "gemrows.things" 194),e P "__firstlineno__" 361 (.int 27 360),e P "__init__" 370 (.ref 98),e P "put" 379 (.ref 105),e P "row" 387 (.ref 112),e P "pairs" 393 (.ref 117),e P "__static_attributes__" 396 (.ref 118),e P "__doc__" 397 .none],2),
 (139,[e P "__module__" 407 (.str "gemrows.things" 194),e P "__firstlineno__" 411 (.int 42 410),e P "__init__" 423 (.ref 137),e P "__static_attributes__" 427 (.ref 138),e P "__doc__" 428 .none],2),
 (180,[e P "__module__" 481 (.str "gemrows.things" 194),e P "__firstlineno__" 485 (.int 62 484),e P "__init__" 495 (.ref 178),e P "__static_attributes__" 498 (.ref 179),e P "__doc__" 499 .none],2),
 (227,[e P "__module__" 539 (.str "gemrows.things" 194),e P "__firstlineno__" 543 (.int 76 542),e P "__init__" 556 (.ref 218),e P "is_own" 563 (.ref 225),e P "__static_attributes__" 575 (.ref 226),e P "__doc__" 576 .none],2),
 (440,[e P "__module__" 828 (.str "gemrows.walk" 809),e P "__firstlineno__" 832 (.int 239 831),e P "__init__" 842 (.ref 438),e P "__static_attributes__" 846 (.ref 439),e P "__dict__" 848 (.ref 442),e P "__weakref__" 850 (.ref 443),e P "__doc__" 851 .none],4),
 (462,[e P "__module__" 861 (.str "gemrows.walk" 809),e P "__firstlineno__" 865 (.int 245 864),e P "__init__" 876 (.ref 460),e P "__static_attributes__" 884 (.ref 461),e P "__dict__" 886 (.ref 464),e P "__weakref__" 888 (.ref 465),e P "__doc__" 889 .none],4),
 (561,[e P "__module__" 899 (.str "gemrows.walk" 809),e P "__firstlineno__" 903 (.int 255 902),e P "__init__" 913 (.ref 481),e P "enter" 921 (.ref 488),e P "go" 930 (.ref 495),e P "send" 944 (.ref 503),e P "done" 952 (.ref 510),e P "leave" 960 (.ref 517),e P "deliver" 968 (.ref 524),e P "going" 976 (.ref 531),e P "raise_error" 984 (.ref 538),e P "fail" 993 (.ref 545),e P "step" 1004 (.ref 552),e P "run" 1011 (.ref 559),e P "__static_attributes__" 1018 (.ref 560),e P "__dict__" 1020 (.ref 563),e P "__weakref__" 1022 (.ref 564),e P "__doc__" 1023 .none],4),
 (595,[e P "nil" 1066 (.ref 596),e P "true" 1068 (.ref 597),e P "false" 1070 (.ref 598),e P "self" 1072 (.ref 599),e P "retry" 1074 (.ref 600),e P "int" 1076 (.ref 601),e P "sym" 1079 (.ref 602),e P "str" 1082 (.ref 603),e P "dstr" 1085 (.ref 604),e P "array" 1088 (.ref 605),e P "hash" 1091 (.ref 606),e P "range" 1094 (.ref 607),e P "splat" 1099 (.ref 608),e P "lvar" 1102 (.ref 609),e P "ivar" 1105 (.ref 610),e P "gvar" 1108 (.ref 611),e P "const" 1111 (.ref 612),e P "t_local" 1115 (.ref 614),e P "t_ivar" 1118 (.ref 615),e P "t_gvar" 1121 (.ref 616),e P "t_const" 1124 (.ref 617),e P "t_index" 1127 (.ref 618),e P "t_attr" 1131 (.ref 619),e P "t_splat" 1135 (.ref 620),e P "t_group" 1138 (.ref 621),e P "assign" 1141 (.ref 622),e P "masgn" 1145 (.ref 623),e P "opasgn" 1149 (.ref 624),e P "call" 1154 (.ref 625),e P "vcall" 1161 (.ref 626),e P "block" 1164 (.ref 627),e P "blockpass" 1168 (.ref 628),e P "and" 1171 (.ref 629),e P "or" 1175 (.ref 630),e P "not" 1179 (.ref 632),e P "super" 1182 (.ref 633),e P "yield" 1186 (.ref 634),e P "lambda" 1189 (.ref 635),e P "defined" 1193 (.ref 636),e P "seq" 1196 (.ref 637),e P "if" 1199 (.ref 638),e P "while" 1204 (.ref 639),e P "case" 1209 (.ref 640),e P "casein" 1214 (.ref 641),e P "matchp" 1219 (.ref 642),e P "matchq" 1223 (.ref 643),e P "begin" 1227 (.ref 644),e P "break" 1233 (.ref 645),e P "next" 1236 (.ref 646),e P "return" 1239 (.ref 647),e P "def" 1242 (.ref 648),e P "class" 1248 (.ref 650),e P "module" 1252 (.ref 651),e P "sclass" 1255 (.ref 652),e P "alias" 1258 (.ref 653),e P "undef" 1261 (.ref 654),e P "p_value" 1263 (.ref 655),e P "p_bind" 1265 (.ref 656),e P "p_pin" 1267 (.ref 657),e P "p_alt" 1269 (.ref 658),e P "p_as" 1271 (.ref 659),e P "p_array" 1274 (.ref 660),e P "p_hash" 1279 (.ref 661)],63),
 (686,[e P "__module__" 1303 (.str "gemrows.nodes" 1064),e P "__firstlineno__" 1307 (.int 342 1306),e P "__init__" 1318 (.ref 677),e P "part" 1326 (.ref 684),e P "__static_attributes__" 1331 (.ref 685),e P "__dict__" 1333 (.ref 688),e P "__weakref__" 1335 (.ref 689),e P "__doc__" 1336 .none],4),
 (707,[e P "__module__" 1348 (.str "gemrows.walkmatch" 1339),e P "__firstlineno__" 1352 (.int 355 1351),e P "__init__" 1360 (.ref 705),e P "__static_attributes__" 1365 (.ref 706),e P "__dict__" 1367 (.ref 709),e P "__weakref__" 1369 (.ref 710),e P "__doc__" 1370 .none],4),
 (763,[e P "__module__" 1431 (.str "gemrows.walkflow" 1422),e P "__firstlineno__" 1435 (.int 394 1434),e P "__init__" 1443 (.ref 761),e P "__static_attributes__" 1448 (.ref 762),e P "__dict__" 1450 (.ref 765),e P "__weakref__" 1452 (.ref 766),e P "__doc__" 1453 .none],4),
 (847,[e P "BasicObject" 1568 .none,e P "Object" 1570 (.str "BasicObject" 1571),e P "Module" 1573 (.str "Object" 1574),e P "Class" 1576 (.str "Module" 1577),e P "Kernel" 1579 .none,e P "Comparable" 1581 .none,e P "Enumerable" 1583 .none,e P "NilClass" 1585 (.str "Object" 1586),e P "TrueClass" 1588 (.str "Object" 1589),e P "FalseClass" 1591 (.str "Object" 1592),e P "Numeric" 1594 (.str "Object" 1595),e P "Integer" 1597 (.str "Numeric" 1598),e P "String" 1600 (.str "Object" 1601),e P "Symbol" 1603 (.str "Object" 1604),e P "Array" 1606 (.str "Object" 1607),e P "Hash" 1609 (.str "Object" 1610),e P "Range" 1612 (.str "Object" 1613),e P "Proc" 1615 (.str "Object" 1616),e P "Fiber" 1618 (.str "Object" 1619),e P "Exception" 1621 (.str "Object" 1622),e P "ScriptError" 1624 (.str "Exception" 1625),e P "NotImplementedError" 1627 (.str "ScriptError" 1628),e P "SystemStackError" 1630 (.str "Exception" 1631),e P "StandardError" 1633 (.str "Exception" 1634),e P "ArgumentError" 1636 (.str "StandardError" 1637),e P "UncaughtThrowError" 1639 (.str "ArgumentError" 1640),e P "FiberError" 1642 (.str "StandardError" 1643),e P "IndexError" 1645 (.str "StandardError" 1646),e P "KeyError" 1648 (.str "IndexError" 1649),e P "StopIteration" 1651 (.str "IndexError" 1652),e P "LocalJumpError" 1654 (.str "StandardError" 1655),e P "NameError" 1657 (.str "StandardError" 1658),e P "NoMethodError" 1660 (.str "NameError" 1661),e P "NoMatchingPatternError" 1663 (.str "StandardError" 1664),e P "NoMatchingPatternKeyError" 1666 (.str "NoMatchingPatternError" 1667),e P "RangeError" 1668 (.str "StandardError" 1669),e P "RuntimeError" 1670 (.str "StandardError" 1671),e P "FrozenError" 1672 (.str "RuntimeError" 1673),e P "TypeError" 1674 (.str "StandardError" 1675),e P "ZeroDivisionError" 1676 (.str "StandardError" 1677)],40),
 (850,[e P "Object" 1685 (.ref 851),e P "Numeric" 1687 (.ref 852),e P "String" 1689 (.ref 853),e P "Symbol" 1691 (.ref 854),e P "Array" 1693 (.ref 855),e P "Hash" 1695 (.ref 856),e P "Range" 1697 (.ref 857)],7),
 (1110,[e P "__module__" 1721 (.str "gemrows.world" 1562),e P "__firstlineno__" 1725 (.int 528 1724),e P "__init__" 1738 (.ref 873),e P "tick" 1745 (.ref 880),e P "write" 1753 (.ref 887),e P "number" 1760 (.ref 894),e P "next_ident" 1767 (.ref 901),e P "ident" 1776 (.ref 908),e P "builtin" 1785 (.ref 915),e P "make_builtin" 1791 (.ref 920),e P "give_own" 1799 (.ref 927),e P "new_module" 1814 (.ref 935),e P "class_of" 1822 (.ref 942),e P "own_of" 1830 (.ref 949),e P "own_behind" 1838 (.ref 956),e P "root_of" 1846 (.ref 963),e P "real_class" 1854 (.ref 970),e P "text" 1862 (.ref 977),e P "list_of" 1870 (.ref 984),e P "table_of" 1878 (.ref 991),e P "key_of" 1886 (.ref 998),e P "range_of" 1896 (.ref 1005),e P "proc" 1913 (.ref 1012),e P "thing" 1923 (.ref 1019),e P "is_error_class" 1931 (.ref 1026),e P "spread" 1937 (.ref 1031),e P "error" 1946 (.ref 1038),e P "fail" 1955 (.ref 1045),e P "need_thawed" 1963 (.ref 1052),e P "set_field" 1973 (.ref 1059),e P "describe" 1981 (.ref 1066),e P "own_constant" 1990 (.ref 1073),e P "find_constant" 1999 (.ref 1080),e P "constant" 2008 (.ref 1087),e P "find_in" 2017 (.ref 1094),e P "constant_in" 2026 (.ref 1101),e P "set_constant" 2036 (.ref 1108),e P "__static_attributes__" 2052 (.ref 1109),e P "__dict__" 2054 (.ref 1112),e P "__weakref__" 2056 (.ref 1113),e P "__doc__" 2057 .none],4)]
noncomputable def YR(P:Params):List (Nat×Obj):=[(1,boot_o_1 P),
 (62,kO "Text" [.ref 40] [.ref 62,.ref 40,.type "object"] 61 [] #[some (.ref 45),none,some (.str "Text" 295),some (.str "Text" 303),some (.builtin "object.__new__"),some (.bool true)]),
 (82,kO "ListThing" [.ref 40] [.ref 82,.ref 40,.type "object"] 81 [] #[some (.ref 65),none,some (.str "ListThing" 323),some (.str "ListThing" 331),some (.builtin "object.__new__"),some (.bool true)]),
 (120,kO "TableThing" [.ref 40] [.ref 120,.ref 40,.type "object"] 119 [] #[some (.ref 85),none,some (.str "TableThing" 350),some (.str "TableThing" 358),some (.builtin "object.__new__"),some (.bool true)]),
 (140,kO "RangeThing" [.ref 40] [.ref 140,.ref 40,.type "object"] 139 [] #[some (.ref 123),none,some (.str "RangeThing" 400),some (.str "RangeThing" 408),some (.builtin "object.__new__"),some (.bool true)]),
 (181,kO "ErrorThing" [.ref 40] [.ref 181,.ref 40,.type "object"] 180 [] #[some (.ref 164),none,some (.str "ErrorThing" 474),some (.str "ErrorThing" 482),some (.builtin "object.__new__"),some (.bool true)]),
 (228,kO "ModuleThing" [.ref 40] [.ref 228,.ref 40,.type "object"] 227 [] #[some (.ref 204),none,some (.str "ModuleThing" 532),some (.str "ModuleThing" 540),some (.builtin "object.__new__"),some (.bool true)]),
 (441,kO "Way" [.type "object"] [.ref 441,.type "object"] 440 [] #[none,none,some (.str "Way" 821),some (.str "Way" 829),some (.builtin "object.__new__"),some (.bool true)]),
 (463,kO "Task" [.type "object"] [.ref 463,.type "object"] 462 [] #[none,none,some (.str "Task" 854),some (.str "Task" 862),some (.builtin "object.__new__"),some (.bool true)]),
 (562,kO "Walker" [.type "object"] [.ref 562,.type "object"] 561 [] #[none,none,some (.str "Walker" 892),some (.str "Walker" 900),some (.builtin "object.__new__"),some (.bool true)]),
 (687,kO "Node" [.type "object"] [.ref 687,.type "object"] 686 [] #[none,none,some (.str "Node" 1296),some (.str "Node" 1304),some (.builtin "object.__new__"),some (.bool true)]),
 (708,kO "Match" [.type "object"] [.ref 708,.type "object"] 707 [] #[none,none,some (.str "Match" 1341),some (.str "Match" 1349),some (.builtin "object.__new__"),some (.bool true)]),
 (764,kO "Choice" [.type "object"] [.ref 764,.type "object"] 763 [] #[none,none,some (.str "Choice" 1424),some (.str "Choice" 1432),some (.builtin "object.__new__"),some (.bool true)]),
 (1111,kO "World" [.type "object"] [.ref 1111,.type "object"] 1110 [] #[none,none,some (.str "World" 1714),some (.str "World" 1722),some (.builtin "object.__new__"),some (.bool true)]),
 (1261,OP),
 (1265,xD),
 (1268,YO),
 (1272,YQ)]
noncomputable def YS(P:Params):List (Nat×Obj):=Cm.map (fun q=>(q.1,tO q.2))++((Gu P).map (fun q=>(q.1,dO q.2.1 q.2.2))++YR P)
noncomputable def Cn(P:Params):List (Nat×Obj):=rX.map (fun f=>(f.1,Tc f.2.1))++YS P
noncomputable def GL(P:Params):List DictEntry:=[e P "__name__" 165 (.str "law_on0142_01" 2060),e P "__doc__" 166 .none,e P "__package__" 167 .none,e P "__loader__" 168 (.builtin "__main__.__loader__#opaque"),e P "__spec__" 169 .none,e P "__annotations__" 170 (.ref 6),e P "__builtins__" 171 (.ref 4),e P "__file__" 173 (.str "/claim/cut.py" 172),e P "__cached__" 174 .none,e P "_wall" 193 (.ref 21),e P "SIMPLE_ESCAPES" 229 (.ref 22),e P "OPERATORS" 257 (.ref 23),e P "DEEPEST_KEY" 259 (.int 12 258),e P "Thing" 294 (.ref 40),e P "Text" 322 (.ref 62),e P "ListThing" 349 (.ref 82),e P "TableThing" 399 (.ref 120),e P "RangeThing" 430 (.ref 140),e P "ProcThing" 473 (.ref 161),e P "ErrorThing" 501 (.ref 181),e P "FiberThing" 531 (.ref 201),e P "ModuleThing" 578 (.ref 228),e P "is_int" 585 (.ref 237),e P "truth" 592 (.ref 244),e P "sort_of" 599 (.ref 251),e P "same" 608 (.ref 258),e P "code_of" 614 (.ref 264),e P "is_word" 622 (.ref 271),e P "is_label" 629 (.ref 278),e P "is_plain_symbol" 636 (.ref 285),e P "full_name" 643 (.ref 292),e P "show_letter" 653 (.ref 299),e P "show_text" 659 (.ref 304),e P "show_symbol" 666 (.ref 311),e P "show_pair" 675 (.ref 318),e P "show_range" 685 (.ref 325),e P "show_thing" 691 (.ref 330),e P "show_error" 702 (.ref 337),e P "show" 712 (.ref 345),e P "GemError" 742 (.ref 363),e P "BadArgument" 758 (.ref 376),e P "StepsOver" 783 (.ref 395),e P "Raised" 808 (.ref 414),e P "give_cause" 820 (.ref 423),e P "Way" 853 (.ref 441),e P "Task" 891 (.ref 463),e P "Walker" 1025 (.ref 562),e P "do_nil" 1034 (.ref 573),e P "do_values" 1044 (.ref 580),e P "do_array" 1053 (.ref 587),e P "do_seq" 1063 (.ref 594),e P "FIELDS" 1295 (.ref 595),e P "Node" 1338 (.ref 687),e P "Match" 1372 (.ref 708),e P "enter_pattern" 1383 (.ref 719),e P "bind_local" 1393 (.ref 726),e P "p_value" 1402 (.ref 733),e P "p_bind" 1411 (.ref 740),e P "p_alt" 1421 (.ref 747),e P "Choice" 1455 (.ref 764),e P "case" 1464 (.ref 775),e P "ask_test" 1475 (.ref 782),e P "ask_value" 1485 (.ref 789),e P "case_body" 1494 (.ref 796),e P "casein" 1506 (.ref 803),e P "next_arm" 1514 (.ref 810),e P "match_arm" 1525 (.ref 817),e P "matchp" 1534 (.ref 824),e P "matchq" 1543 (.ref 831),e P "raise_version" 1552 (.ref 838),e P "own_module" 1561 (.ref 845),e P "MODULES" 1567 (.ref 846),e P "BUILTINS" 1684 (.ref 847),e P "MIXED" 1706 (.ref 850),e P "UNMADE" 1713 (.ref 858),e P "World" 2059 (.ref 1111),e P "_law_bag" 2067 (.ref 1120),e P "_law_take" 2078 (.ref 1127),e P "_law_value" 2088 (.ref 1134),e P "_law_other" 2096 (.ref 1141),e P "_law_leaf" 2104 (.ref 1148),e P "_law_test" 2110 (.ref 1153),e P "_law_whens" 2116 (.ref 1158),e P "_law_pattern" 2122 (.ref 1163),e P "_law_arms" 2134 (.ref 1170),e P "_law_node" 2140 (.ref 1175),e P "_law_weight" 2147 (.ref 1182),e P "_law_asked" 2156 (.ref 1189),e P "_law_holds" 2163 (.ref 1196),e P "_law_guard" 2171 (.ref 1203),e P "_law_read" 2181 (.ref 1210),e P "_law_all" 2192 (.ref 1217),e P "_law_tested" 2201 (.ref 1224),e P "_law_case" 2217 (.ref 1231),e P "_law_fits" 2228 (.ref 1238),e P "_law_words" 2235 (.ref 1245),e P "_law_one" 2245 (.ref 1252),e P "_law_arm" 2258 (.ref 1259),e P "_law_kinds" 2273 (.ref 1266),e P "law" 2287 (.ref 1273)]
noncomputable def FL:List (Nat×Nat):=[(1,20),(8,29),(17,50),(22,70),(27,90),(42,128),(49,148),(62,169),(68,189),(76,209),(94,236),(96,243),(100,250),(108,257),(113,263),(124,270),(131,277),(133,284),(141,291),(149,298),(159,303),(162,310),(164,317),(168,324),(172,329),(193,336),(199,344),(211,351),(216,372),(218,384),(223,403),(229,422),(239,429),(245,451),(255,473),(314,572),(316,579),(328,586),(333,593),(342,667),(355,697),(362,718),(366,725),(368,732),(377,739),(383,746),(394,753),(401,774),(418,781),(430,788),(443,795),(449,802),(472,809),(475,816),(484,823),(493,830),(506,837),(508,844),(528,864),(731,1119),(737,1126),(746,1133),(759,1140),(761,1147),(766,1152),(773,1157),(779,1162),(786,1169),(792,1174),(816,1181),(818,1188),(823,1195),(825,1202),(828,1209),(845,1216),(853,1223),(860,1230),(879,1237),(893,1244),(897,1251),(902,1258),(914,1265),(942,1272)]
noncomputable def zd:Obj:={cls:=.type "code",dict:=none,data:=.fields #[.str "<module>" 182,.str "<module>" 183,.str "/claim/cut.py" 184,.int 1 0,.int 0 0,.int 0 0,.int 0 0,.int 0 0,.ref 11,.bool false,.int 181 0,.ref 12,.none,.none,.none,.none,.int 185 0,.int 1 0,.str "/claim/cut.py" 186]}
noncomputable def xE(n:Nat):Obj:=kO "Thing" [.type "object"] [.ref 40,.type "object"] 39 ([.ref 62,.ref 82,.ref 120,.ref 140,.ref 161,.ref 181,.ref 201,.ref 228].take n) #[none,none,some (.str "Thing" 260),some (.str "Thing" 268),some (.builtin "object.__new__"),some (.bool true)]
noncomputable def vJ(n:Nat):Obj:=kO "GemError" [.type "ValueError"] [.ref 363,.type "ValueError",.type "Exception",.type "BaseException",.type "object"] 362 ([.ref 376,.ref 395,.ref 414].take n) #[some (.ref 346),none,some (.str "GemError" 715),some (.str "GemError" 723),some (.builtin "ValueError.__new__"),some (.bool true)]
noncomputable def xF(P:Params):Obj:=dO [e P "__module__" 267 (.str "gemrows.things" 194),e P "__firstlineno__" 271 (.int 8 270),e P "__init__" 280 (.ref 37),e P "__static_attributes__" 287 (.ref 38),e P "__dict__" 289 (.ref 41),e P "__weakref__" 291 (.ref 42),e P "__doc__" 292 .none] 4
noncomputable def vK(P:Params):Obj:=dO [e P "__module__" 722 (.str "gemrows.errors" 713),e P "__firstlineno__" 726 (.int 211 725),e P "__init__" 735 (.ref 360),e P "__static_attributes__" 737 (.ref 361),e P "__weakref__" 739 (.ref 364),e P "__doc__" 740 .none] 3
set_option genInjectivity false in
structure Cut where
 n:Nat
 toks:Nat
 pos:Pos
 L:Params→List (Nat×Obj)
noncomputable def sJ:Cut:=⟨15,187,⟨0,0,0,0⟩,fun P=>[(3,dO (jL (.str "__main__" 164) ((GL P).take 9)) 9),(12,{cls:=.none,data:=.fields (sI (FL.take 0)).toArray}),(13,zd),(0,boot_o_0 P),(2,boot_o_2 P),(4,boot_o_4 P)]⟩
noncomputable def La:Cut:=⟨23,230,⟨5,0,5,14⟩,fun P=>[(3,dO (jL (.str "gemrows.things" 194) ((GL P).take 11)) 11),(12,{cls:=.none,data:=.fields (sI (FL.take 1)).toArray}),(13,zd),(0,boot_o_0 P),(2,boot_o_2 P),(4,boot_o_4 P)]⟩
noncomputable def YT:Cut:=⟨143,431,⟨42,0,48,27⟩,fun P=>[(3,dO (jL (.str "gemrows.things" 194) ((GL P).take 18)) 18),(12,{cls:=.none,data:=.fields (sI (FL.take 6)).toArray}),(39,xF P),(40,xE 4),(13,zd),(0,boot_o_0 P),(2,boot_o_2 P),(4,boot_o_4 P)]⟩
noncomputable def YU:Cut:=⟨379,759,⟨216,0,217,8⟩,fun P=>[(3,dO (jL (.str "gemrows.errors" 713) ((GL P).take 41)) 41),(12,{cls:=.none,data:=.fields (sI (FL.take 29)).toArray}),(39,xF P),(40,xE 8),(362,vK P),(363,vJ 1),(13,zd),(0,boot_o_0 P),(2,boot_o_2 P),(4,boot_o_4 P)]⟩
noncomputable def Lb:Cut:=⟨595,1066,⟨340,0,340,8⟩,fun P=>[(3,dO (jL (.str "gemrows.nodes" 1064) ((GL P).take 51)) 51),(12,{cls:=.none,data:=.fields (sI (FL.take 39)).toArray}),(39,xF P),(40,xE 8),(362,vK P),(363,vJ 3),(13,zd),(0,boot_o_0 P),(2,boot_o_2 P),(4,boot_o_4 P)]⟩
noncomputable def Lc:Cut:=⟨662,1296,⟨341,0,341,6⟩,fun P=>[(3,dO (jL (.str "gemrows.nodes" 1064) ((GL P).take 52)) 52),(12,{cls:=.none,data:=.fields (sI (FL.take 39)).toArray}),(39,xF P),(40,xE 8),(362,vK P),(363,vJ 3),(13,zd),(0,boot_o_0 P),(2,boot_o_2 P),(4,boot_o_4 P)]⟩
noncomputable def Ld:Cut:=⟨847,1568,⟨524,0,524,7⟩,fun P=>[(3,dO (jL (.str "gemrows.world" 1562) ((GL P).take 72)) 72),(12,{cls:=.none,data:=.fields (sI (FL.take 58)).toArray}),(39,xF P),(40,xE 8),(362,vK P),(363,vJ 3),(13,zd),(0,boot_o_0 P),(2,boot_o_2 P),(4,boot_o_4 P)]⟩
noncomputable def Lf:Cut:=⟨858,1707,⟨526,0,526,5⟩,fun P=>[(3,dO (jL (.str "gemrows.world" 1562) ((GL P).take 74)) 74),(12,{cls:=.none,data:=.fields (sI (FL.take 58)).toArray}),(39,xF P),(40,xE 8),(362,vK P),(363,vJ 3),(13,zd),(0,boot_o_0 P),(2,boot_o_2 P),(4,boot_o_4 P)]⟩
noncomputable def YV:Cut:=⟨1116,2060,⟨528,0,729,17⟩,fun P=>[(3,dO (jL (.str "gemrows.world" 1562) ((GL P).take 76)) 76),(12,{cls:=.none,data:=.fields (sI (FL.take 59)).toArray}),(39,xF P),(40,xE 8),(362,vK P),(363,vJ 3),(13,zd),(0,boot_o_0 P),(2,boot_o_2 P),(4,boot_o_4 P)]⟩
noncomputable def gE:Cut:=⟨1274,2288,⟨942,0,951,118⟩,fun P=>[(3,dO (jL (.str "law_on0142_01" 2060) ((GL P).take 100)) 100),(12,{cls:=.none,data:=.fields (sI (FL.take 83)).toArray}),(39,xF P),(40,xE 8),(362,vK P),(363,vJ 3),(13,zd),(0,boot_o_0 P),(2,boot_o_2 P),(4,boot_o_4 P)]⟩
noncomputable def Td(r:Option (Flow×SharedT×Code×Pos))(ks cs:List Nat):Option (Flow×Code×Nat×Nat×Pos×Life×Array GenState×Drawn×OsState×List (Option Obj)×List (Option Str)):=match r with
 |some (f,s,c,p)=>some (f,c,s.n,s.toks,p,s.life,s.gens,s.drawn,s.os,ks.map fun a=>s.tree.get a,cs.map fun c=>vI (s.tree.get c))
 |none=>none
noncomputable def Te(i n:Nat):List Stmt:=(wM.drop i).take n
noncomputable def Q8(P:Params)(n:Nat):List Nat:=(we 0 n (Cn P)).map (·.1)++(we 0 n zQ).map (·.1)
def ji(w:World)(b:Bool)(i n:Nat)(c c':Cut):Prop:=∀(os:OsState) (g:Nat→Obj),
 Td (ZX YM PySem.Challenge.pw_on0142_01 (w.withFollow "special-get-raises" b) 11 (some (.ref 6)) 1 5000 ⟨xC 12 (vH (c.L w.params) g) c.n,c.n,{}, #[],boot_drawn,c.toks,os⟩ (piecesOf (Te i n) Gs rg c.pos [topFrame ⟨0,0,0,0⟩]))
  ((c'.L w.params).map (·.1)++((we c.n c'.n (Cn w.params)).map (·.1)++Q8 w.params c.n)) ((we c.n c'.n zQ).map (·.1))=
 some (.next,rg,c'.n,c'.toks,c'.pos,{}, #[],boot_drawn,os,(c'.L w.params).map (fun q=>some q.2)++((we c.n c'.n (Cn w.params)).map (fun q=>some q.2)++(Q8 w.params c.n).map (fun a=>some (g a))),
  (we c.n c'.n zQ).map fun q=>some q.2)
theorem b0t(w:World):ji w true 0 3 sJ La:=fun os g=>kr
theorem b0f(w:World):ji w false 0 3 sJ La:=fun os g=>kr
theorem b0(w:World)(b:Bool):ji w b 0 3 sJ La:=b.casesOn (b0f w) (b0t w)
theorem b1(w:World)(b:Bool):ji w b 3 7 La YT:=fun os g=>kr
theorem b2(w:World)(b:Bool):ji w b 10 24 YT YU:=fun os g=>kr
theorem b3(w:World)(b:Bool):ji w b 34 12 YU Lb:=fun os g=>kr
theorem b4t(w:World):ji w true 46 1 Lb Lc:=fun os g=>kr
theorem b4f(w:World):ji w false 46 1 Lb Lc:=fun os g=>kr
theorem b4(w:World)(b:Bool):ji w b 46 1 Lb Lc:=b.casesOn (b4f w) (b4t w)
theorem b5(w:World)(b:Bool):ji w b 47 24 Lc Ld:=fun os g=>kr
theorem b6t(w:World):ji w true 71 2 Ld Lf:=fun os g=>kr
theorem b6f(w:World):ji w false 71 2 Ld Lf:=fun os g=>kr
theorem b6(w:World)(b:Bool):ji w b 71 2 Ld Lf:=b.casesOn (b6f w) (b6t w)
theorem b7(w:World)(b:Bool):ji w b 73 2 Lf YV:=fun os g=>kr
theorem b8(w:World)(b:Bool):ji w b 75 25 YV gE:=fun os g=>kr
theorem Gv{α:Type}{b:Bool}{q:α}{x y:List α}(h1:q∈x)(h2:q∈y):q∈mX b x y:=by induction b using qd with|true=>exact h1|false=>exact h2
theorem rC{α:Type}{lo hi:Nat}{q:Nat×α}{l:List (Nat×α)}:q∈l→lo≤q.1→q.1<hi→q∈we lo hi l:=by
 induction l with
 |nil=>exact fun h=>nomatch h
 |cons p l ih=>
  intro h h1 h2;rcases List.mem_cons.mp h with h|h
  ·rw[←h];show _∈mX (Nat.ble lo q.1) (mX (Nat.blt q.1 hi) _ _) _;rw[Nat.ble_eq_true_of_le h1,Nat.blt_eq.mpr h2];exact .head _
  ·exact Gv (Gv (.tail _ (ih h h1 h2)) (ih h h1 h2)) (ih h h1 h2)
theorem vL{α β:Type}{f:α→Option β}{L:List (α×β)}:(L.map (·.1)).map f=L.map (fun q=>some q.2)→∀p∈L,f p.1=some p.2:=by
 induction L with
 |nil=>exact fun _ _ h=>nomatch h
 |cons q L ih=>
  intro e p hp;obtain⟨e1,e2⟩:=List.cons.inj e;rcases List.mem_cons.mp hp with z|hp
  ·rw[z];exact e1
  ·exact ih e2 p hp
theorem Dr{α β:Type}{f:α→β}{a b:List α}{c d:List β}(hl:a.length=c.length)(h:(a++b).map f=c++d):a.map f=c∧b.map f=d:=by
 rw[List.map_append]at h;exact List.append_inj h (by simpa using hl)
theorem Q9{pos:Pos}{os:OsState}{vals:List (Option Obj)}{qs:List (Option Str)}
  (h:Td r ks cs=some (.next,c,n,toks,pos,{}, #[],boot_drawn,os,vals,qs)):
  ∃T:BT,r=some (.next,⟨T,n,{}, #[],boot_drawn,toks,os⟩,c,pos)∧ks.map (fun a=>T.get a)=vals∧cs.map (fun c=>vI (T.get c))=qs:=by
 rcases r with _|⟨f,⟨T,n',life,gens,drawn,ZY,os'⟩,c',p⟩
 ·exact nn h
 ·replace h:=qc h;injection h with e1 h;injection h with e2 h;injection h with e3 h;injection h with e4 h;injection h with e5 h;injection h with e6 h;injection h with e7 h;injection h with e8 h;injection h with e9 h;injection h with h1 h2;have e3:n'=n:=e3;have e4:ZY=toks:=e4;have e6:life={}:=e6;have e7:gens= #[]:=e7;have e8:drawn=boot_drawn:=e8;have e9:os'=os:=e9;exact⟨T,by rw[e1,e2,e3,e4,e5,e6,e7,e8,e9],h1,h2⟩
structure Known (c:Cut) (P:Params) (T:BT):Prop where
 l:∀p∈c.L P,T.get p.1=some p.2
 o:∀p∈Cn P,p.1<c.n→T.get p.1=some p.2
 q:∀p∈zQ,p.1<c.n→vI (T.get p.1)=some p.2
theorem Bo(h:vI o=some x):∃ob,o=some ob:=by
 induction o using qe with
 |none=>exact nn h
 |some ob=>exact⟨ob,rfl⟩
noncomputable def g8(T:BT)(c:Cut)(os:OsState):Shared:=(SharedT.mk T c.n {} #[] boot_drawn c.toks os).abs
noncomputable def yy(w:World)(N:Nat)(s:Shared)(t:Thread):Option Shared:=topRun treeTable PySem.Challenge.pw_on0142_01 w 11 (some (.ref 6)) N s t
noncomputable def uN(i:Nat)(c:Cut):Thread:=restOf (wM.drop i) Gs rg c.pos [topFrame ⟨0,0,0,0⟩]
theorem jZ{c c':Cut}(h:∀b,ji w b i n c c')(hn:c.n<2^12){T:BT}(K:Known c w.params T)(os:OsState):
  ∃T':BT,Known c' w.params T'∧∀{N:Nat} {r:Shared},yy w N (g8 T' c' os) (uN (i+n) c')=some r→yy w (5000+N) (g8 T c os) (uN i c)=some r:=by
 have hb:=h (w.params.followText "special-get-raises");unfold ji at hb;rw[World.withFollow_self w "special-get-raises"]at hb;obtain⟨T',h1,h2,h3⟩:=Q9 (hb os fun a=>(T.get a).getD default);obtain⟨e1,e2⟩:=Dr (by simp) h2;obtain⟨e3,e4⟩:=Dr (by simp) e2;have CI:∀a∈Q8 w.params c.n,T'.get a=some ((T.get a).getD default):=fun a ha=>List.map_inj_left.mp e4 a ha;refine⟨T',⟨vL e1,fun p hp hl=> ?_,fun p hp hl=> ?_⟩,fun{N r} k=> ?_⟩
 ·by_cases q:p.1<c.n
  ·rw[CI _ (List.mem_append.mpr (.inl (List.mem_map.mpr ⟨p,rC hp (qm _) q,rfl⟩))),K.o p hp q];rfl
  ·exact vL e3 p (rC hp (qC q) hl)
 ·by_cases q:p.1<c.n
  ·rw[CI _ (List.mem_append.mpr (.inr (List.mem_map.mpr ⟨p,rC hp (qm _) q,rfl⟩)))];have e:=K.q p hp q;obtain⟨ob,eo⟩:=Bo e;rw[eo]at e⊢;exact e
  ·exact vL (f:=fun c=>vI (T'.get c)) h3 p (rC hp (qC q) hl)
 ·have sg:segRunT treeTable PySem.Challenge.pw_on0142_01 w 11 (some (.ref 6)) 1 5000 ⟨xC 12 (vH (c.L w.params) fun a=>(T.get a).getD default) c.n,c.n,{}, #[],boot_drawn,c.toks,os⟩ (piecesOf (Te i n) Gs rg c.pos [topFrame ⟨0,0,0,0⟩])=some (.next,⟨T',c'.n,{}, #[],boot_drawn,c'.toks,os⟩,rg,c'.pos):=by
   rw[PySem.W.Fast.te10110043849684766642,PySem.W.Fast.te14364793385576792824];exact h1
  have ab:g8 T c os=(SharedT.mk (xC 12 (vH (c.L w.params) fun a=>(T.get a).getD default) c.n) c.n {} #[] boot_drawn c.toks os).abs:=by
   show Shared.mk (absHeap T c.n {}) _ _ _ _=Shared.mk (absHeap _ c.n {}) _ _ _ _;rw[Gr hn K.l]
  have lr:wM.drop i=Te i n++wM.drop (i+n):=by
   unfold Te;rw[←List.drop_drop];exact(List.take_append_drop _ _).symm
  unfold yy uN;rw[ab,lr];exact piece_app (segRun_of sg) k
noncomputable def L0(P:Params):List (Nat×Obj):=sJ.L P++[(1,boot_o_1 P),(5,boot_o_5 P),(6,boot_o_6 P),(7,boot_o_7 P),(8,boot_o_8 P),(9,boot_o_9 P),(10,boot_o_10 P),(11,tO []),
 (14,{cls:=.type "frame",data:=.plain,slots:= #[some (.ref 13),some (.ref 3),some (.ref 3),none,some (.str "__main__" 164),none,some (.ref 0)]})]
noncomputable def T0(P:Params):BT:=xC 12 (vH (L0 P) fun _=>default) 15
theorem YW(P:Params):Known sJ P (T0 P):=by
 refine⟨?_, ?_, ?_⟩
 ·exact vL (f:=fun a=>(T0 P).get a) (L:=sJ.L P) kr
 ·intro p hp hl;have:=rC hp (qm _) hl;rw[show we 0 sJ.n (Cn P)=[(1,boot_o_1 P)] by kernel_rfl]at this;rw[List.mem_singleton.mp this];have e:(T0 P).get 1=some (boot_o_1 P):=kr;exact e
 ·intro p hp hl;have:=rC hp (qm _) hl;rw[show we 0 sJ.n zQ=[] by kernel_rfl]at this;cases this
theorem YX(w:World)(os:OsState):topGo treeTable PySem.Challenge.pw_on0142_01 w 11 (some (.ref 6)) 12 ⟨boot_heap w.params,Array.mk [],boot_drawn,boot_toks,os⟩ (topStub PySem.Challenge.pw_on0142_01)=
  some (g8 (T0 w.params) sJ os,⟨denote treeTable rg,rg,⟨0,0,0,0⟩,[topFrame ⟨0,0,0,0⟩]⟩):=kr
theorem YY(w:World)(os:OsState):segRun treeTable PySem.Challenge.pw_on0142_01 w 11 (some (.ref 6)) 1 1 (g8 (T0 w.params) sJ os) (blockOf (behindTheImports PySem.Challenge.pw_on0142_01) Gs rg ⟨0,0,0,0⟩ [topFrame ⟨0,0,0,0⟩])=
  some (.next,g8 (T0 w.params) sJ os,rg,⟨0,0,0,0⟩):=kr
theorem Ra:wM.drop 100=[]:=kr
theorem Rb:behindTheImports PySem.Challenge.pw_on0142_01=wM.drop 0:=kr
theorem YZ(w:World)(s:Shared):yy w 3 s (uN 100 gE)=some s:=by
 unfold yy uN;rw[Ra];kernel_rfl
theorem Vu(w:World)(os:OsState):∃T,Known gE w.params T∧topRun treeTable PySem.Challenge.pw_on0142_01 w 11 (some (.ref 6)) 50000 ⟨boot_heap w.params,Array.mk [],boot_drawn,boot_toks,os⟩ (topStub PySem.Challenge.pw_on0142_01)=some (g8 T gE os):=by
 have lt:∀{c:Cut},Nat.blt c.n 4096=true→c.n<2^12:=fun h=>Nat.blt_eq.mp h;obtain⟨T1,K1,k1⟩:=jZ (b0 w) (lt kr) (YW w.params) os;obtain⟨T2,K2,k2⟩:=jZ (b1 w) (lt kr) K1 os;obtain⟨T3,K3,k3⟩:=jZ (b2 w) (lt kr) K2 os;obtain⟨T4,K4,k4⟩:=jZ (b3 w) (lt kr) K3 os;obtain⟨T5,K5,k5⟩:=jZ (b4 w) (lt kr) K4 os;obtain⟨T6,K6,k6⟩:=jZ (b5 w) (lt kr) K5 os;obtain⟨T7,K7,k7⟩:=jZ (b6 w) (lt kr) K6 os;obtain⟨T8,K8,k8⟩:=jZ (b7 w) (lt kr) K7 os;obtain⟨T9,K9,k9⟩:=jZ (b8 w) (lt kr) K8 os;refine⟨T9,K9, ?_⟩;have run:=k1 (k2 (k3 (k4 (k5 (k6 (k7 (k8 (k9 (YZ w (g8 T9 gE os))))))))));unfold yy uN at run;rw[←Rb]at run;have:=go_top (YX w os) (piece_block (YY w os) run);exact topRun_mono 4984 _ _ _ _ this
noncomputable def Gw:Program:=view PySem.Challenge.pw_on0142_01 [99]
noncomputable def Bp:List Str:=PySem.Challenge.pw_on0142_01.boundNames.filter fun n=> !seq n "law"
noncomputable def Gx(P:Params):List (Nat×Obj):=gE.L P++Cn P
noncomputable def Gy(P:Params)(g:Nat→Obj):BT:=xC 12 (vH (Gx P) g) 1274
theorem ZZ(P:Params):((boot_heap P).isNs mainGlobals&&(Array.mk ([]:List GenState)).size==0,(boot_heap P).objs.size,(boot_heap P).nsMap mainGlobals "__annotations__")=(true,11,some (.ref 6)):=kr
theorem Y0(P:Params)(os:OsState)(g:Nat→Obj):(staticsOk (importedModules PySem.Challenge.pw_on0142_01.main.body) (boot_heap P) (g8 (Gy P g) gE os).heap&&namesBound PySem.Challenge.pw_on0142_01 (g8 (Gy P g) gE os).heap&&
  gensDone (g8 (Gy P g) gE os)&&laidKept (boot_heap P) (g8 (Gy P g) gE os).heap)=true:=kr
theorem Y3(P:Params)(os:OsState)(g:Nat→Obj):openSeen Gw Bp (importedModules PySem.Challenge.pw_on0142_01.main.body) (fun _=>true) true (g8 (Gy P g) gE os)=openGood Gw Bp:=kr
structure iQ (P:Params) (h:Heap):Prop where
 l:∀q∈Gx P,h.get? q.1=some q.2
 q:∀c∈zQ,∃o,h.get? c.1=some o∧vI (some o)=some c.2
theorem iQ.mono(t:iQ P h)(k:∀b o,h.get? b=some o→h'.get? b=some o):iQ P h':=
 ⟨fun q hq=>k _ _ (t.l q hq),fun c hc=>(by obtain⟨o,e,r⟩:=t.q c hc;exact⟨o,k _ _ e,r⟩)⟩
noncomputable def Lg(q:Nat×Obj):Bool:=match Nat.blt q.1 1274 with
 |true=>match q.2.data with
  |.freed=>false
  |_=>true
 |false=>false
theorem Co(P:Params):(Gx P).all Lg=true:=kr
theorem Y4:(zQ.all fun q=>Nat.blt q.1 1274)=true:=kr
theorem vM(h:Lg q=true):q.1<1274∧alive q.2=some q.2:=by
 obtain⟨a,o⟩:=q;unfold Lg at h
 split at h
 ·rename_i q1
  refine⟨Nat.blt_eq.mp q1, ?_⟩;obtain⟨c,d,dt,sl⟩:=o;induction dt using PySem.Data.casesOn<;>first|rfl|exact ft h
 ·exact ft h
theorem Vv{w:World}{T:BT}{os:OsState}(K:Known gE w.params T):iQ w.params (g8 T gE os).heap:=by
 refine⟨fun q hq=> ?_,fun c hc=> ?_⟩
 ·obtain⟨h1,h2⟩:=vM (List.all_eq_true.mp (Co w.params) q hq);rw[←h2];refine abs_get (n:=1274) h1 ?_;rcases List.mem_append.mp hq with hq|hq
  ·exact K.l q hq
  ·exact K.o q hq h1
 ·have h1:c.1<1274:=Nat.blt_eq.mp (List.all_eq_true.mp Y4 c hc);have e:=K.q c hc h1;obtain⟨o,eo⟩:=Bo e;have g:=abs_get (n:=1274) (life:={}) h1 eo;refine⟨o,g.trans ?_,eo▸e⟩;rw[eo]at e;obtain⟨cl,d,dt,sl⟩:=o;induction dt using PySem.Data.casesOn<;>first|rfl|exact nn e
noncomputable def uO(w:World):Heap:=match openEnds treeTable PySem.Challenge.pw_on0142_01 w 50000 with
 |some s=>s.heap
 |none=>default
theorem Lh:opening PySem.Challenge.pw_on0142_01=plainProg PySem.Challenge.pw_on0142_01.main.scope.names:=by rfl
theorem Rc(s:Shared):fenceModules? PySem.Challenge.pw_on0142_01 s=some s:=by rfl
theorem Y5(w:World):∃T os,Known gE w.params T∧openEnds treeTable PySem.Challenge.pw_on0142_01 w 50000=some (g8 T gE os):=by
 obtain⟨⟨h,gs,d,k,os⟩,e,e'⟩:=Option.map_eq_some_iff.mp (boot_open (N:=50000) Lh (by rfl) Rc w);obtain⟨rfl,rfl,rfl,rfl⟩:h=boot_heap w.params∧gs=Array.mk []∧d=boot_drawn∧k=boot_toks:=by simpa using e'
 obtain⟨T,K,run⟩:=Vu w os;refine⟨T,os,K, ?_⟩;obtain⟨z1,z2,z3⟩:_∧_∧_:=by simpa only[Prod.mk.injEq]using ZZ w.params
 have lk:g8 T gE os=g8 (Gy w.params fun a=>(T.get a).getD default) gE os:=by
  show Shared.mk (absHeap T 1274 {}) _ _ _ _=Shared.mk (absHeap (xC 12 (vH (Gx w.params) _) 1274) 1274 {}) _ _ _ _;rw[Gr (L:=Gx w.params) (f:=12) (by decide) fun q hq=> ?_];rcases List.mem_append.mp hq with Ay|Ay
  ·exact K.l q Ay
  ·exact K.o q Ay (vM (List.all_eq_true.mp (Co w.params) q hq)).1
 have l1:=Y0 w.params os fun a=>(T.get a).getD default;rw[←lk]at l1;unfold openEnds;rw[e];show topFrom treeTable PySem.Challenge.pw_on0142_01 w 50000 ⟨boot_heap w.params,Array.mk [],boot_drawn,boot_toks,os⟩=_;unfold topFrom;dsimp only;rw[z1,z2,z3,run];show(match staticsOk (importedModules PySem.Challenge.pw_on0142_01.main.body) (boot_heap w.params) (g8 T gE os).heap&&namesBound PySem.Challenge.pw_on0142_01 (g8 T gE os).heap&&gensDone (g8 T gE os)&&laidKept (boot_heap w.params) (g8 T gE os).heap with|true=>_|false=>_)=_;rw[l1]
theorem left:LeftO PySem.Challenge.pw_on0142_01 Gw Bp (fun _=>true) (fun s=>s.heap) uO 50000:=fun w=>by
 obtain⟨T,os,K,e⟩:=Y5 w;unfold uO;rw[e];have lk:g8 T gE os=g8 (Gy w.params fun a=>(T.get a).getD default) gE os:=by
  show Shared.mk (absHeap T 1274 {}) _ _ _ _=Shared.mk (absHeap (xC 12 (vH (Gx w.params) _) 1274) 1274 {}) _ _ _ _;rw[Gr (L:=Gx w.params) (f:=12) (by decide) fun q hq=> ?_];rcases List.mem_append.mp hq with Ay|Ay
  ·exact K.l q Ay
  ·exact K.o q Ay (vM (List.all_eq_true.mp (Co w.params) q hq)).1
 have l2:=Y3 w.params os fun a=>(T.get a).getD default;rw[←lk]at l2;show some (openSeen _ _ _ _ _ (g8 T gE os),(g8 T gE os).heap)=some (openGood _ _,(g8 T gE os).heap);rw[l2]
theorem Vx(e:h=uO w):iQ w.params h:=by
 obtain⟨T,os,K,e'⟩:=Y5 w;unfold uO at e;rw[e']at e;rw[e];exact Vv K
noncomputable def OQ{α:Type}(a:Nat):List (Nat×α)→Option α
 |[]=>none
 |q::l=>mX (Nat.beq a q.1) (some q.2) (OQ a l)
theorem kE{α:Type}{a:Nat}{o:α}{L:List (Nat×α)}:OQ a L=some o→(a,o)∈L:=by
 induction L with
 |nil=>exact nn
 |cons q l ih=>exact fun h=>jj h (fun b e=>by rw[qt b,←qc e];exact .head _) fun _ e=>.tail _ (ih e)
noncomputable def xG{α:Type}(a b:Option (List α)):Option (List α):=match a with
 |some x=>match b with
  |some y=>some (x++y)
  |none=>none
 |none=>none
theorem jP{α:Type}{a b:Option (List α)}{l:List α}(h:xG a b=some l):∃x y,a=some x∧b=some y∧l=x++y:=by
 induction a using qe with
 |none=>exact nn h
 |some x=>induction b using qe with
  |none=>exact nn h
  |some y=>obtain rfl:=qc h;exact⟨x,y,rfl,rfl,rfl⟩
abbrev Ow:=List (Value×Value)
noncomputable def Rf(v:Value):Option Tok:=match v with
 |.int _ t=>some t
 |.str _ t=>some t
 |_=>none
section
variable(P:Params)
mutual
noncomputable def Gz:V→Value→Option Ow
 |.none,y=>some [(.none,y)]
 |.bool b,y=>some [(.bool b,y)]
 |.top a,y=>some [(.ref a,y)]
 |.bi b,y=>some [(.builtin b.id,y)]
 |.ty t,y=>some [(.type t.id,y)]
 |.int i,y=>cC (Rf y) fun t=>some [(.int i t,y)]
 |.str s,y=>cC (Rf y) fun t=>some [(.str s t,y)]
 |.tup vs,y=>cC (KZ y) fun a=>cC (OQ a Cm) fun xs=>xG (some [(.ref a,y)]) (GA vs xs)
 |.fB fs,y=>cC (KZ y) fun a=>cC (OQ a (Gu P)) fun q=>xG (some [(.ref a,y),(.bool (a==sysModules),.bool false)]) (Rg fs q.1)
 |_,_=>none
noncomputable def GA:List V→LV→Option Ow
 |[],ys=>fH (eB ys) (some [])
 |v::vs,ys=>cC (mE ys) fun q=>xG (Gz v q.1) (GA vs q.2)
noncomputable def Rg:ai→List DictEntry→Option Ow
 |[],ys=>fH (eB ys) (some [])
 |(n,v)::vs,ys=>cC (mE ys) fun q=>cC (Rf q.1.key) fun t=>xG (some [(.str n t,q.1.key),(.int (PyData.keyHash P n) 0,.int q.1.hash 0)]) (xG (Gz v q.1.val) (Rg vs q.2))
end
end
def jM(l:Ow):Prop:=∀q∈l,q.1=q.2
theorem jM.left(h:jM (a++b)):jM a:=fun q hq=>h q (List.mem_append.mpr (.inl hq))
theorem jM.right(h:jM (a++b)):jM b:=fun q hq=>h q (List.mem_append.mpr (.inr hq))
theorem jM.one(h:jM ((a,b)::l)):a=b:=h _ (.head _)
theorem IC(h:l.map (·.1)=l.map (·.2)):jM l:=by
 induction l with
 |nil=>intro q hq;cases hq
 |cons x l ih=>
  simp only[List.map_cons,List.cons.injEq]at h;intro q hq;rcases List.mem_cons.mp hq with rfl|hq
  ·exact h.1
  ·exact ih h.2 q hq
section
variable{P:Params}{I:IM} (ht:∀a xs,(a,xs)∈Cm→I a=some (tO xs)) (hd:∀a es n,(a,es,n)∈Gu P→I a=some (dO es n))
include ht hd
theorem OR:∀{y:Value} {l:Ow},Gz P v y=some l→jM l→aq I P (fun _=>0) 0 v y:=by
 refine V.rec (motive_1:=fun v=>∀{y:Value} {l:Ow},Gz P v y=some l→jM l→aq I P (fun _=>0) 0 v y) (motive_2:=fun vs=>∀{ys:LV} {l:Ow},GA P vs ys=some l→jM l→aG I P (fun _=>0) 0 vs ys)
  (motive_3:=fun vs=>∀{ys:List DictEntry} {l:Ow},Rg P vs ys=some l→jM l→bF I P (fun _=>0) 0 vs ys) (motive_4:=fun q=>∀{y:Value} {l:Ow},Gz P q.2 y=some l→jM l→aq I P (fun _=>0) 0 q.2 y)
  (fun e p=> ?_) (fun b _ _ e p=> ?_) (fun i _ _ e p=>aK e fun t _ e=> ?_) (fun x _ _ e p=>aK e fun t _ e=> ?_) (fun b _ _ e p=> ?_) (fun t _ _ e p=> ?_) (fun a _ _ e p=> ?_) (fun _ _ _ e _=>nn e)
  (fun vs ih _ _ e p=>aK e fun a _ e=>aK e fun xs q e=> ?_) (fun _ _ _ _ e _=>nn e) (fun _ _ _ _ _ e _=>nn e) (fun fs ih _ _ e p=>aK e fun a _ e=>aK e fun xs q e=> ?_) (fun _ _ _ e _=>nn e) (fun _ _ _ _ _ e _=>nn e)
  (fun _ _ _ e _=>nn e) (fun _ _ _ e _=>nn e) (fun _ _ _ e _=>nn e) (fun e p=> ?_) (fun v vs h1 h2 _ _ e p=>aK e fun q hq e=> ?_) (fun e p=> ?_) (fun v vs h1 h2 _ _ e p=>aK e fun q hq e=>aK e fun t _ e=> ?_) (fun _ _ h=>h) v
 ·exact(qc e▸p).one▸.none
 ·exact(qc e▸p).one▸.bool b
 ·exact(qc e▸p).one▸.int i t
 ·exact(qc e▸p).one▸.str x t
 ·exact(qc e▸p).one▸.bi b
 ·exact(qc e▸p).one▸.ty t
 ·exact(qc e▸p).one▸.top a
 ·obtain⟨x,y,e1,e2,e3⟩:=jP e;rw[e3,←qc e1]at p;exact p.one▸.tup (n:=0) (ht _ _ (kE q)) (ih e2 p.right)
 ·obtain⟨x,y,e1,e2,e3⟩:=jP e;rw[e3,←qc e1]at p;exact p.one▸.fB (Value.bool.inj (p _ (.tail _ (.head _)))) (hd _ _ _ (kE q)) (ih e2 p.right)
 ·rw[cH (cP e)];exact .nil
 ·obtain⟨x,y,e1,e2,e3⟩:=jP e;rw[e3]at p;rw[iG hq];exact .cons (h1 e1 p.left) (h2 e2 p.right)
 ·rw[cH (cP e)];exact .nil
 ·obtain⟨x1,x2,e1,e2,e5⟩:=jP e;obtain⟨x3,x4,e3,e4,e6⟩:=jP e2;rw[e5,e6,←qc e1]at p;rw[iG hq,show q.1=⟨PyData.keyHash P v.1,.str v.1 t,q.1.val⟩from congr (congrArg (DictEntry.mk · · q.1.val) (Value.int.inj (p _ (.tail _ (.head _)))).1.symm) p.one.symm];exact .cons (h1 e3 p.right.left) (h2 e4 p.right.right)
theorem Vy:∀{ys:LV} {l:Ow},GA P vs ys=some l→jM l→aG I P (fun _=>0) 0 vs ys:=by
 induction vs with
 |nil=>exact fun e p=>cH (cP e)▸.nil
 |cons v vs ih=>
  exact fun e p=>aK e fun q hq e=>by
   obtain⟨x,y,e1,e2,e3⟩:=jP e;rw[e3]at p;rw[iG hq];exact .cons (OR ht hd e1 p.left) (ih e2 p.right)
end
noncomputable def j0(h:Heap):IM:=fun a=>if a=1261 then none else h.get? a
noncomputable def ID(q:Nat×Obj):Bool:= !(Nat.beq q.1 1261)
noncomputable def KL(P:Params):Frag:=(YS P++(gE.L P++rX.map (fun f=>(f.1,Tc f.2.1)))).filter ID
theorem i6(e:h.get? a=some o)(ne:Nat.beq a 1261=false):j0 h a=some o:=by
 unfold j0;rw[if_neg (Nat.ne_of_beq_eq_false ne),e]
theorem GB(h:Heap):QN (j0 h) h:=fun b o e=>by
 unfold j0 at e
 split at e
 ·exact nn e
 ·exact e
noncomputable def Tf(v:Value):Bool:=match v with
 |.ref _=>true
 |_=>false
theorem Rh(h:Tf v=true):v=.ref ((KZ v).getD 0):=by
 induction v using Value.casesOn with
 |ref=>rfl
 |_=>exact ft h
noncomputable def Y6(f:Addr×FuncData×List V):Bool:=eW (Tf f.2.1.code) (eW (i8 (Nat.beq (K0 f.2.1) 1261)) (eW (i8 (Nat.beq f.1 1261)) (eW (Nat.beq f.2.1.globals mainGlobals) (eW (Nat.beq f.2.1.builtins builtinsNs) (eB f.2.1.closure)))))
theorem Ri:rX.all Y6=true:=kr
noncomputable def Li(P:Params)(fd:FuncData)(ds:List V):Option Ow:=match fd.defaults with
 |.none=>fH (eB ds) (some [])
 |.ref a=>cC (OQ a Cm) fun xs=>fH (i8 (eB ds)) (GA P ds xs)
 |_=>none
noncomputable def uP(P:Params):List (Addr×FuncData×List V)→Option Ow
 |[]=>some []
 |f::l=>xG (Li P f.2.1 f.2.2) (uP P l)
theorem Lj:∀{l:Ow},uP P fs=some l→jM l→f∈fs→∃x,Li P f.2.1 f.2.2=some x∧jM x:=by
 induction fs with
 |nil=>exact fun _ _ m=>nomatch m
 |cons g fs ih=>
  intro l e p hm;obtain⟨x,y,e1,e2,e3⟩:=jP e;rw[e3]at p;rcases List.mem_cons.mp hm with q|q
  ·exact⟨x,q▸e1,p.left⟩
  ·exact ih e2 p.right q
noncomputable def pn(P:Params):List DictEntry:=jL (.str "law_on0142_01" 2060) (GL P)
noncomputable def Bq(P:Params):Array DictEntry:=match(boot_o_0 P).data with
 |.dict es _=>es
 |_=> #[]
noncomputable def DT(P:Params)(x:Str):Option Value:=match nsFind (pn P).toArray x with
 |some y=>some y
 |none=>nsFind (Bq P) x
theorem Rj(h:DT P x=some y):nsFind (pn P).toArray x=some y∨(nsFind (pn P).toArray x=none∧nsFind (Bq P) x=some y):=by
 unfold DT at h;rcases q:nsFind (pn P).toArray x with _|z
 ·rw[q]at h;exact .inr ⟨rfl,h⟩
 ·rw[q]at h;exact .inl h
noncomputable def Cp(P:Params):ai→Option Ow
 |[]=>some []
 |q::l=>cC (DT P q.1) fun y=>xG (Gz P q.2 y) (Cp P l)
theorem Vz:∀{l:Ow},Cp P fs=some l→jM l→lk x fs=some v→∃y z,DT P x=some y∧Gz P v y=some z∧jM z:=by
 induction fs with
 |nil=>exact fun _ _=>nn
 |cons q fs ih=>
  exact fun e p hm=>aK e fun y hy e=>by
   obtain⟨x1,y1,e1,e2,e3⟩:=jP e;rw[e3]at p;exact uh (y:=q.1) (a:=q.2) hm (fun a b=>⟨y,x1,a▸hy,b▸e1,p.left⟩) fun hm=>ih e2 p.right hm
noncomputable def Cq(x:Option Ow):Ow:=match x with
 |some l=>l
 |none=>[]
theorem owG(P:Params):Cp P AE=some (Cq (Cp P AE)):=kr
theorem abB(P:Params):(Cq (Cp P AE)).map (·.1)=(Cq (Cp P AE)).map (·.2):=kr
theorem owF(P:Params):uP P rX=some (Cq (uP P rX)):=kr
theorem abC(P:Params):(Cq (uP P rX)).map (·.1)=(Cq (uP P rX)).map (·.2):=kr
theorem Rk(P:Params):ug (KL P) Sj:=⟨kr,kr,kr,kr,kr,kr⟩
noncomputable def Cr(es:List DictEntry):Bool:=es.all fun q=>match q.key with
 |.str _ _=>true
 |_=>false
theorem vN{es:List DictEntry}(h:Cr es=true):StrKeys es.toArray:=fun q hq=>by
 have:=List.all_eq_true.mp h q (by simpa using hq)
 split at this
 ·rename_i n t e;exact⟨n,t,e⟩
 ·exact ft this
theorem Y7(P:Params):Cr (pn P)=true:=kr
theorem abD(P:Params):Cr (Bq P).toList=true:=kr
noncomputable def zV{α:Type}(q:Nat×α):Bool:= !(Nat.beq q.1 1261)
theorem VA:Cm.all zV=true:=kr
theorem VB(P:Params):(Gu P).all zV=true:=kr
theorem OT{α:Type}{l:List (Nat×α)}(h:l.all zV=true){q:Nat×α}(hq:q∈l):Nat.beq q.1 1261=false:=by
 have:=List.all_eq_true.mp h q hq;unfold zV at this
 simpa using this
theorem Ll{o:Obj}{K:Frag}:K.lookup a=some o→(a,o)∈K:=by
 induction K with
 |nil=>exact nn
 |cons q K ih=>
  intro e;rw[List.lookup_cons]at e;rcases z:a==q.1 with _|_
  ·rw[z]at e;exact .tail _ (ih e)
  ·rw[z]at e;rw[eq_of_beq z,←qc e];exact .head _
theorem Lm(e:Ck d=some vs):d=.fields vs:=by
 induction d using Data.casesOn with
 |fields=>exact congrArg _ (qc e)
 |_=>exact nn e
theorem VC(h:YN v=some x):∃t,v=.str x t:=by
 induction v using Value.casesOn with
 |str=>exact⟨_,congrArg (Value.str · _) (qc h)⟩
 |_=>exact nn h
theorem OU(h:vI (some o)=some x):∃vs t,o.data=.fields vs∧vs[1]? =some (.str x t):=
 aK (o:=Ck o.data) h fun vs e h=>aK h fun v e2 h=>(VC h).elim fun t z=>⟨vs,t,Lm e,z▸e2⟩
section
variable(t:iQ P h)
include t
theorem iQ.ob{q:Nat×Obj}(hq:q∈YS P):h.get? q.1=some q.2:=t.l q (List.mem_append.mpr (.inr (List.mem_append.mpr (.inr hq))))
theorem iQ.fn{q:Addr×FuncData×List V}(hq:q∈rX):h.get? q.1=some (Tc q.2.1):=t.l (q.1,Tc q.2.1) (List.mem_append.mpr (.inr (List.mem_append.mpr (.inl (List.mem_map.mpr ⟨q,hq,rfl⟩)))))
theorem iQ.cut{q:Nat×Obj}(hq:q∈gE.L P):h.get? q.1=some q.2:=t.l q (List.mem_append.mpr (.inl hq))
theorem iQ.tup(a:Nat)(xs:LV)(hq:(a,xs)∈Cm):j0 h a=some (tO xs):=
 i6 (t.ob (q:=(a,tO xs)) (List.mem_append.mpr (.inl (List.mem_map.mpr ⟨_,hq,rfl⟩)))) (OT VA hq)
theorem iQ.fB(a:Nat)(es:List DictEntry)(n:Nat)(hq:(a,es,n)∈Gu P):j0 h a=some (dO es n):=
 i6 (t.ob (q:=(a,dO es n)) (List.mem_append.mpr (.inr (List.mem_append.mpr (.inl (List.mem_map.mpr ⟨_,hq,rfl⟩)))))) (OT (VB P) hq)
theorem iQ.D7{q:Nat×Obj}(hq:q∈YR P):h.get? q.1=some q.2:=t.ob (List.mem_append.mpr (.inr (List.mem_append.mpr (.inr hq))))
theorem iQ.kn(a:Nat)(o:Obj)(e:(KL P).lookup a=some o):j0 h a=some o:=by
 obtain⟨h1,h2⟩:=List.mem_filter.mp (Ll e);have ne:Nat.beq a 1261=false:=by unfold ID at h2;simpa using h2
 refine i6 ?_ ne;rcases List.mem_append.mp h1 with h1|h1
 ·exact t.ob h1
 ·rcases List.mem_append.mp h1 with h1|h1
  ·exact t.cut h1
  ·obtain⟨q,hq,e⟩:=List.mem_map.mp h1;cases e
   exact t.fn hq
theorem iQ.g:j0 h 3=some (dO (pn P) 100):=i6 (t.cut (q:=(3,dO (pn P) 100)) (kE kr)) rfl
theorem iQ.b:j0 h 0=some (boot_o_0 P):=i6 (t.cut (q:=(0,boot_o_0 P)) (kE kr)) rfl
theorem iQ.st:j0 h 2=some (boot_o_2 P):=i6 (t.cut (q:=(2,boot_o_2 P)) (kE kr)) rfl
theorem iQ.m4:j0 h 4=some (boot_o_4 P):=i6 (t.cut (q:=(4,boot_o_4 P)) (kE kr)) rfl
theorem VD(ex:Li P fd ds=some x)(px:jM x):(fd.defaults=.none∧ds=[])∨∃T n xs,fd.defaults=.ref T∧j0 h T=some {cls:=.type "tuple",data:=.seq xs.toArray n}∧aG (j0 h) P (fun _=>0) 0 ds xs∧ds≠[]:=by
 unfold Li at ex;induction q:fd.defaults using Value.casesOn with
 |none=>rw[q]at ex;exact .inl ⟨rfl,cH (cP ex)⟩
 |ref T=>rw[q]at ex;exact aK ex fun xs hx ex=>.inr ⟨T,0,xs,rfl,t.tup _ _ (kE hx),Vy t.tup t.fB (cW ex) px,fun z=>by rw[z]at ex;exact nn ex⟩
 |_=>rw[q]at ex;exact nn ex
theorem iQ.fnAt{fd:FuncData}{ds:List V}(hm:(a,fd,ds)∈rX):FnAt (j0 h) P a fd ds:=by
 obtain⟨hc,r⟩:=bk (List.all_eq_true.mp Ri _ hm);obtain⟨c1,r⟩:=bk r;obtain⟨a1,r⟩:=bk r;obtain⟨f1,r⟩:=bk r;obtain⟨f2,f3⟩:=bk r;obtain⟨o,eo,eq⟩:=t.q (K0 fd,fd.qualname) (List.mem_map.mpr ⟨_,hm,rfl⟩);obtain⟨x,ex,px⟩:=Lj (owF P) (IC (abC P)) hm;obtain⟨vs,tk,e2,e3⟩:=OU eq;exact⟨⟨_,i6 (t.fn hm) (u5 a1),rfl,rfl⟩,⟨_,o,vs,tk,Rh hc,i6 eo (u5 c1),e2,e3⟩,qt f1,qt f2,cH f3,VD t ex px⟩
end
theorem bOb(P:Params):(boot_o_0 P).data=.dict (Bq P) 159:=kr
theorem sOb(P:Params):(boot_o_2 P).data=.dict #[] 0:=kr
theorem iQ.base{p:Program}{h:Heap}(t:iQ w.params h):iJ (bN p w (KL w.params)) (j0 h):=by
 refine⟨⟨nsFind (pn w.params).toArray,nsFind (Bq w.params),⟨_,_,100,t.g,rfl,vN (Y7 w.params),fun _=>rfl⟩,⟨_,_,_,t.b,bOb w.params, ?_,fun _=>rfl⟩,fun x v e=> ?_⟩,⟨nsFind #[],⟨_,_,_,t.st,sOb w.params, ?_,fun _=>rfl⟩, ?_⟩,
  fun a fd ds hm=>t.fnAt hm,t.kn,Rk w.params,⟨_,i6 (t.D7 (q:=(1,boot_o_1 w.params)) (by exact .head _)) rfl⟩⟩
 ·have:=vN (abD w.params)
  simpa using this
 ·obtain⟨y,z,h1,h2,h3⟩:=Vz (owG w.params) (IC (abB w.params)) e;exact⟨y,Rj h1,OR t.tup t.fB h2 h3⟩
 ·exact fun q hq=>by simp at hq
 ·kernel_rfl
theorem iQ.kb{h:Heap}(t:iQ P h):KB (j0 h) 1265 1261:=by
 have Z0:j0 h 1265=some xD:=i6 (t.D7 (q:=(1265,xD)) (kE kr)) rfl;refine⟨fun h' hs=>⟨_,_,_,_,_,_,_,_,_,hs _ _ Z0,rfl,rfl,rfl,rfl,rfl,rfl,rfl,rfl,by decide⟩,fun h' hs=>⟨nsFind (pn P).toArray,⟨_,_,100,hs _ _ t.g,rfl,vN (Y7 P),fun _=>rfl⟩, ?_⟩,by decide⟩;refine⟨4,_,kr,by decide,by decide,by decide,hs _ _ t.m4,rfl,rfl,rfl⟩
noncomputable abbrev n9:OpenRow:=PySem.Challenge.rw_on0142_01.row
noncomputable def zR:DefRec:=match defOf Gw "law"with
 |some x=>x.1
 |none=>⟨"",default,[],default,default⟩
theorem QT:defOf Gw n9.name=some (zR,[]):=kr
theorem abE:n9.prog.theDef n9.name=some (zR.params,zR.body,zR.scope):=kr
theorem hkw:kwWritten? zR.params.kwonlyargs zR.params.kw_defaults=some []:=kr
theorem bX:(chainsOk Gw&&opensWell n9.prog&&(frees n9.toRowW&&n9.within.isEmpty))=true:=kr
theorem Z1:n9.prog.bare:=⟨rfl,rfl,rfl,rfl,rfl,by decide+kernel⟩
theorem Z2:n9.toRowW.promised:=⟨[.list [.int 3,.int 1]],by decide+kernel,by decide+kernel⟩
theorem VE{ns:List Int}(h4:WTm.holds ([]:WRecords) (.and (.not (.lt (.lit (.int 63)) (.len (.arg 0)))) (.lit (.bool true))) {args:=[WData.list (ns.map WData.int)]}=true):ns.length≤63:=by
  by_cases q:ns.length≤63
  ·exact q
  ·simp[WTm.holds,WTm.value]at h4;have e:less? (WData.int 63) (WData.int ns.length)=some (decide ((63:Int)<ns.length)):=by rfl
   rw[e,decide_eq_true (by omega)]at h4;exact ft h4
theorem Y8(a b:List WData):n9.claim.post a (WData.bool true) b=true:=kr
theorem Rl{I:IM}{σ:Nat→Addr}{n:Nat}{ns:List Int}:∀{s s':Shared} {vs:LV},
  layAllW R cl P Tg (ns.map .int) s=some (vs,s')→aG I P σ n (ns.map V.num) vs∧s'.heap=s.heap:=by
 induction ns with
 |nil=>exact fun h=>⟨(oB h).1▸.nil,congrArg Shared.heap (oB h).2.symm⟩
 |cons i ns ih=>
  intro s s' vs h;have h:(match layAllW R cl P Tg (ns.map .int) {s with toks:=s.toks+1}with
   |some r=>some (.int i s.toks::r.1,r.2)
   |Option.none=>Option.none)=some (vs,s'):=h
  rcases e:layAllW R cl P Tg (ns.map .int) {s with toks:=s.toks+1}with _|r
  ·rw[e]at h;exact nn h
  ·rw[e]at h;obtain⟨h1,h2⟩:=oB h;obtain⟨h3,h4⟩:=ih e;exact⟨h1▸.cons (.num i _) h3,h2▸h4⟩
theorem VF{σ:Nat→Addr}{n:Nat}{ns:List Int}{s s':Shared}{vs:LV}
  (h:layAllW R cl P Tg [.list (ns.map .int)] s=some (vs,s')):∃xs,vs=[.ref s.heap.objs.size]∧s'.heap.get? s.heap.objs.size=some {cls:=.type "list",data:=.seq xs.toArray 0}∧aG I P σ n (ns.map V.num) xs:=by
 simp only[layAllW,layW]at h
 split at h
 ·rename_i a e
  split at e
  ·rename_i r e'
   obtain rfl:=qc e;cases h
   obtain⟨h1,h2⟩:=Rl (I:=I) (σ:=σ) (n:=n) (vs:=r.1) (s':=r.2) e';refine⟨r.1,by rw[h2], ?_,h1⟩;rw[←h2];exact Heap.get?_push_size _ rfl
  ·exact nn e
 ·exact nn h
theorem Z3:WalkX Gw Bp (fun _ _=>True) (fun s=>s.heap) uO n9.toRowW zR [] fun f vs=>PySem.call f vs:=by
 intro w kG s₁ mg mb G hY a o pm cd y9 dV kV ha ho Cs hdf hmg Z4 args vals as L abF adu hrd hwl hlo;have t0:iQ w.params kG.heap:=Vx hY;have t:=t0.mono L.keeps;obtain⟨Ru,YJ⟩:=pre_splitW abF;obtain⟨d,r,rfl,h1,h2⟩:=hasAllW_cons Ru;obtain rfl:=hasAllW_nil h2;obtain⟨xs,rfl,h3⟩:=hasW_list h1;obtain⟨ns,rfl⟩:=items_int h3;have ly:ns.length≤63:=VE YJ;obtain⟨Tg,_,hl⟩:=L.laid;obtain⟨xs,rfl,hx,hr⟩:=VF (I:=j0 s₁.heap) (σ:=fun _=>0) (n:=0) hl;have law:a=1273:=by
  obtain⟨o',es,ep,e1,e2,_,e3⟩:=G.T.g;have e4:=GB _ _ _ t.g;have e1:s₁.heap.get? 3=some o':=e1;rw[e4]at e1;obtain rfl:=qc e1;cases e2
  have e5:=e3 "law";have e6:nsFind (pn w.params).toArray "law"=some (.ref 1273):=kr;have e7:mg "law"=some (.ref a):=hmg;rw[e6,e7]at e5;cases e5
  rfl
 subst law;have T0:kG.heap.get? 1261=some (tabObj #[]):=t0.D7 (q:=(1261,OP)) (kE kr);have T1:s₁.heap.get? 1261=some (tabObj #[]):=L.keeps _ _ T0;have ne:Nat.beq kG.heap.objs.size 1261=false:=by
  have:=Heap.lt_size T0;induction e:Nat.beq kG.heap.objs.size 1261 using qd with
  |false=>rfl
  |true=>rw[qt e]at this;exact absurd this (Nat.lt_irrefl _)
 have H:au (bN n9.prog w (KL w.params)) (0+101) callerA (j0 s₁.heap) (fun _=>0) [] s₁:=
  ⟨⟨by decide,by decide,rfl,rfl⟩,t.base,⟨GB _,fun k o e=>by trivial,fun j k h=>absurd h (qr _),fun k h=>absurd h (qr _)⟩⟩
 refine Q7 (k:=0) (T:=1261) ly H t.kb (if_pos rfl) T1 (.lst (n:=0) (i6 hx ne) hr) fun s' keep sm tab=> ?_;obtain⟨ps,Mj⟩:=tab;refine⟨.inl ⟨.bool true,.bool true,[],rfl,fun cls=>rfl,.bool true, ?_,fun _=>⟨.nil,fun a ha=>nomatch ha⟩⟩,⟨fun b ob hb=> ?_,fun b ob hb=> ?_⟩,sm.2.2,.of_eq (sm.1.trans Z4)⟩
 ·exact Y8 _ _
 ·by_cases q:b=1261
  ·subst q;rw[T1]at hb;obtain rfl:=qc hb;refine .inr (.inl ⟨⟨1265,xD,_,t.D7 (q:=(1265,xD)) (kE kr),rfl,rfl,rfl⟩,rfl, #[],ps,rfl, ?_⟩);rw[Mj];simp[tabObj]
  ·exact .inl (keep b ob hb q)
 ·by_cases q:b=1261
  ·subst q;exact⟨_,Mj⟩
  ·exact⟨_,keep b ob hb q⟩
theorem abG(h:n9.wellSaid=true):n9.Holds:=
 holds_openX (r:=n9) (XP:=fun _ _=>True) left (fun _ _=>trivial) (fun _ _ _ _ _=>trivial) QT abE hkw (fun s _=>recFacts_nil rfl) rfl h bX Z1 Z2 Z3
section
open PySem.W.Fast
noncomputable abbrev aR:OpenLaw:=PySem.Challenge.rw_on0142_01
theorem y1:(sreFenced aR.prog.main&&((moduleNames aR.prog.main.body).isEmpty||lookedIntoSs (moduleNames aR.prog.main.body) aR.prog.main.body))=true:=kr
theorem y2:tw8377067652309620493 aR.prog=true:=kr
theorem y3:aR.prog.boundNames.all (fun n=> !worldNames.contains n)=true:=kr
theorem y4:tw13343964577679436407 aR.prog aR.prog.main.body "vars"=false:=kr
theorem y5:tw13343964577679436407 aR.prog aR.prog.main.body "dir"=false:=kr
theorem y6:tw13343964577679436407 aR.prog aR.prog.main.body "locals"=false:=kr
theorem y7:tw8326940854005059898 {strict:= !(importedModules aR.prog.main.body).all cThrough.contains,foot:=none,bare:=[]} aR.prog.main.body=true:=kr
theorem y8:tw17119622794617984870 aR.prog aR.prog.main.body (fun _ n=>tw17868728402115742887 n)=true:=kr
theorem Z5:looksOpen aR.prog=true:=by
 have a2:namesResolve aR.prog=true:=by rw[te8377067652309620493];exact y2
 have b:(["vars","dir","locals"]:List Str).filter (readsOut aR.prog aR.prog.main.body)=[]:=by
  have r:∀n,readsOut aR.prog aR.prog.main.body n=tw13343964577679436407 aR.prog aR.prog.main.body n:=fun n=>by rw[te13343964577679436407]
  simp only[List.filter_cons,List.filter_nil,r,y4,y5,y6];rfl
 have a4:noRoadLSs {strict:= !(importedModules aR.prog.main.body).all cThrough.contains,foot:=none,bare:=(["vars","dir","locals"]:List Str).filter (readsOut aR.prog aR.prog.main.body)} aR.prog.main.body=true:=by
  rw[b,te8326940854005059898];exact y7
 have a5:namesMeet aR.prog aR.prog.main.body (fun _ n=>attrL n)=true:=by
  rw[te17119622794617984870,te17868728402115742887];exact y8
 exact look_both (look_both (look_both (look_both (look_both (Bool.and_eq_true_iff.mp y1).1 (Bool.and_eq_true_iff.mp y1).2) a2) y3) a4) a5
theorem z1:(aR.row.loose.isEmpty&&(aR.row.makers.isEmpty&&
 ((aR.row.records.isEmpty||aR.row.raises.all fun ct=>ct.1 !=.builtin "AttributeError"&&ct.1 !=.builtin "TypeError")&&
 ((aR.row.raises.all fun ct=>match ct.1 with|.builtin n=> !aR.row.prog.boundNames.contains (Str.ofString n)&& !ofTheWorld.contains n|.own _=>true)&&
 (decide (aR.row.records.map (·.1)).Nodup&&((aR.row.records.all fun x=> !x.1.opensWith "__"&& !builtinNamed x.1&&aR.row.prog.boundNames.contains x.1&&x.2.all fun f=> !f.1.opensWith "__")&&
 (aR.row.toRowW.solid&&(aR.row.pre.litsOk&&(aR.row.post.litsOk&&(aR.row.raises.all (·.2.litsOk)&&
 (aR.row.mutates.all (fun i=>match aR.row.args[i]? with
  |some sh=> !sh.arms.any WShape.isObj
  |none=>false)&&
 (aR.row.within.all (fun i=>decide (i<aR.row.args.length))&&(aR.row.same.all (fun i=>decide (i<aR.row.args.length))&&(aR.row.prog.boundNames.contains aR.row.name&& !startupNames.contains aR.row.name))))))))))))))=true:=kr
theorem row_said:aR.row.wellSaid=true:=by
 have h:=z1;simp only[Bool.and_eq_true]at h;obtain⟨h1,h2,h3,h4,h5,h6,h7,h8,h9,ou,A1,vY,yT,h14,h15⟩:=h;exact look_both (look_both (look_both (look_both (look_both (look_both (look_both (look_both (look_both (look_both (look_both (look_both (look_both (look_both (look_both Z5 h1) h2) h3) h4) h5) h6) h7) h8) h9) ou) A1) vY) yT) h14) h15
theorem v1:(decide (aR.foot≤(behindTheImports aR.prog).length)&&aR.footing.all tw10501279942588096481)=true:=kr
theorem v2:tw8179353310426384613 aR.prog aR.footing=true:=kr
theorem v3:(aR.most.all (fun n=>decide (63≤n))&&aR.bound.all (fun n=>decide (2^63≤n)))=true:=kr
theorem v4:tw8326940854005059898 {strict:=true,foot:=some aR.bound',writes:=aR.writes,may:=aR.may} aR.footing=true:=kr
theorem v5:tw9558739934217749035 aR.about aR.above=true:=kr
theorem v6:tw16286561074155671207 aR=true:=kr
theorem v7:((["type","isinstance","issubclass","getattr","hasattr"]:List Str).all fun n=>aR.about !=[n])=true:=kr
theorem v8:(aR.bound'.all fun n=> !qNamed n||aR.about==[n]|| !tw6984425678791042302 aR n)=true:=kr
theorem v9:(!aR.writes||(aR.prog.main.body.flatMap importedNames).all fun n=> !aR.reads n)=true:=kr
theorem v10:((aR.prog.main.body.flatMap importedNames).all fun n=> !aR.reads n||(drawsOf n aR.prog.main.body).all fun mn=>mn.2 !=("attrgetter":Str)&&mn.2 !=("methodcaller":Str))=true:=kr
theorem v11:tw17119622794617984870 aR.prog aR.footing (fun sc n=>(!(["type","isinstance","issubclass","getattr","hasattr"]:List Str).contains n||sc.names.lookup n==some .globalImplicit)&&
  (aR.may !=some n||sc.kind==.module||sc.names.lookup n==some .globalImplicit))=true:=kr
theorem v12:(aR.own.contains aR.name&&(aR.own.eraseDups.length==aR.own.length&&aR.own.all (fun n=> !builtinNamed n)))=true:=kr
theorem v13:tw17119622794617984870 aR.prog aR.above (fun _ n=> !aR.own.contains n)=true:=kr
theorem v14:tw17119622794617984870 aR.prog aR.footing (fun sc n=>sc.kind==.module||sc.names.lookup n !=some .globalExplicit)=true:=kr
theorem Rm:aR.wellSaid=true:=by
 have h1:=Bool.and_eq_true_iff.mp v1;have h3:=Bool.and_eq_true_iff.mp v3;have vY:=Bool.and_eq_true_iff.mp v12;have yT:=Bool.and_eq_true_iff.mp vY.2;have e1:aR.footing.all footLine=true:=by rw[te10501279942588096481];exact h1.2
 have e2:noClassBlock aR.prog aR.footing=true:=by rw[te8179353310426384613];exact v2
 have e4:noRoadLSs {strict:=true,foot:=some aR.bound',writes:=aR.writes,may:=aR.may} aR.footing=true:=by rw[te8326940854005059898];exact v4
 have e5:defStands aR.about aR.above=true:=by rw[te9558739934217749035];exact v5
 have e6:aR.namesIt=true:=by rw[te16286561074155671207];exact v6
 have e8:(aR.bound'.all fun n=> !builtinNamed n||aR.about==[n]|| !aR.reads n)=true:=by
  have r:∀n,aR.reads n=tw6984425678791042302 aR n:=fun n=>by rw[te6984425678791042302]
  simp only[named_eq,r];exact v8
 have e11:=v11;have e13:=v13;have e14:=v14;rw[←te17119622794617984870]at e11 e13 e14;exact look_both (look_both (look_both (look_both (look_both (look_both (look_both (look_both (look_both (look_both (look_both (look_both (look_both (look_both (look_both (look_both (look_both (look_both row_said h1.1) e1) e2) h3.1) h3.2) e4) e5) e6) v7) e8) v9) v10) e11) vY.1) yT.1) yT.2) e13) e14
theorem OV:PySem.Challenge.rw_on0142_01.Holds:=⟨Rm,abG row_said⟩
end
end Mine.Internal
theorem PySem.Challenge.cw_on0142_01_holds : PySem.Challenge.rw_on0142_01.Holds :=
 Mine.Internal.OV
