import PyProof.Rows.All
import Wide.All
import OpenK.AllK
import Wide.FinOn
import KE.KSortTup
import PySem.Challenge.RW_tk0023_01
set_option Elab.async false
set_option linter.all false
set_option genSizeOf false
set_option bootstrap.genMatcherCode false
namespace TK
theorem Q0{α β}(a:α)(f:α→Option β):(some a).bind f=f a:=rfl
theorem Q1{α}(a b:α):(some a=some b)=(a=b):=Option.some.injEq a b
theorem Q2{α}{a b:α}(h:a∈[b]):a=b:=List.mem_singleton.mp h
theorem Q3{α}(l:List α):l<+:l:=List.prefix_refl l
theorem Q5{α}{b:α}{l:List α}{a:α}(h:a∈b::l):a=b∨a∈l:=List.mem_cons.mp h
theorem Q6{α}{i:Nat}{a:α}{l:List α}(h:l[i]?=some a):∃h,l[i]=a:=List.getElem?_eq_some_iff.mp h
theorem Q7{α β}{f:α→β}{a:α}{l:List α}:(a::l).map f=f a::l.map f:=rfl
theorem Q8{α}{as bs:List α}:(as++bs).length=as.length+bs.length:=List.length_append
theorem Q9{p:Prop}[Decidable p]:(decide p=true)=p:=decide_eq_true_eq
theorem Qa{α}{a:α}{as:List α}:(a::as).length=as.length+1:=rfl
theorem Qb{α}(as bs cs:List α):as++bs++cs=as++(bs++cs):=List.append_assoc as bs cs
theorem Qc(a b:Bool):((a&&b)=true)=(a=true∧b=true):=Bool.and_eq_true a b
theorem Qd{α β}{f:α→β}{l:List α}{i:Nat}:(l.map f)[i]?=l[i]?.map f:=List.getElem?_map
theorem Qe{α}{l:List α}{i:Nat}(h:i<l.length):l[i]?=some l[i]:=List.getElem?_eq_getElem h
theorem Qf{α}{l:List α}{i:Nat}{a:α}(h:l[i]?=some a):a∈l:=List.mem_of_getElem? h
theorem Qg{α β}{b:β}{f:α→β}{l:List α}(h:b∈l.map f):∃a,a∈l∧f a=b:=List.mem_map.mp h
theorem Qh{α}{a:α}{s t:List α}(h:a∈s++t):a∈s∨a∈t:=List.mem_append.mp h
theorem Qi{α β}{as:List α}(f:α→β):(as.map f).length=as.length:=List.length_map f
theorem Qj{α β}{l:List α}{a:α}{f:α→β}(h:a∈l):f a∈l.map f:=List.mem_map_of_mem h
theorem Qk{α}:([]:List α).length=0:=rfl
theorem Ql{α}{p:α→Bool}{l:List α}(h:l.all p=true):∀x,x∈l→p x=true:=List.all_eq_true.mp h
theorem Qm{α β}{f:α→β}:([]:List α).map f=[]:=rfl
theorem Qn{α}{a:α}{l:List α}(h:a∈l):∃i:Nat,l[i]?=some a:=List.mem_iff_getElem?.mp h
theorem Qo{α}{b:α}{β}{x:Option β}{f:β→α}(h:x.map f=some b):∃a,x=some a∧f a=b:=Option.map_eq_some_iff.mp h
theorem Qp{α}(as:List α):as++[]=as:=List.append_nil as
theorem Qq:(false=true)=False:=Bool.false_eq_true
theorem Qr{α β}{f:α→β}{l₁ l₂:List α}:(l₁++l₂).map f=l₁.map f++l₂.map f:=List.map_append
theorem Qs(n:Nat):n≤n:=Nat.le_refl n
noncomputable def lsum(cs:List (Nat×Nat.Internal.Linear.ExprCnstr)):Nat.Internal.Linear.ExprCnstr:=
 cs.foldr (fun x r=>⟨false,.add (.mulL x.1 x.2.lhs) r.lhs,.add (.mulL x.1 x.2.rhs) r.rhs⟩) ⟨false,.num 0,.num 0⟩
noncomputable def lden(c:Nat.Internal.Linear.Context)(cs:List (Nat×Nat.Internal.Linear.ExprCnstr))(P:Prop):Prop:=cs.foldr (fun x r=>x.2.denote c→r) P
theorem lcn_le{c:Nat.Internal.Linear.Context}{x:Nat.Internal.Linear.ExprCnstr}(h:x.denote c):x.lhs.denote c≤x.rhs.denote c:=by
 cases x with|mk e l r=>cases e with
 |false=>exact h
 |true=>exact Nat.le_of_eq h
theorem lin_sum{c:Nat.Internal.Linear.Context}{P:Prop}:∀{cs:List (Nat×Nat.Internal.Linear.ExprCnstr)},((lsum cs).lhs.denote c≤(lsum cs).rhs.denote c→P)→lden c cs P
 |[],h=>h (Qs 0)
 |x::cs,h=>fun hx=>lin_sum fun hs=>h (Nat.add_le_add (Nat.mul_le_mul_left _ (lcn_le hx)) hs)
noncomputable def lbad(s:Nat.Internal.Linear.ExprCnstr):Bool:=(Nat.Internal.Linear.ExprCnstr.mk false s.lhs s.rhs).toNormPoly.isUnsat
theorem lbad_ff{c:Nat.Internal.Linear.Context}{s:Nat.Internal.Linear.ExprCnstr}(h:lbad s=true)(h':s.lhs.denote c≤s.rhs.denote c):False:=(Nat.Internal.Linear.ExprCnstr.eq_false_of_isUnsat c _ h).mp h'
noncomputable def Gb(k:Nat)(a b:Nat.Internal.Linear.Expr):Nat×Nat.Internal.Linear.ExprCnstr:=(k,⟨false,a,b⟩)
noncomputable def Ge(k:Nat)(a b:Nat.Internal.Linear.Expr):Nat×Nat.Internal.Linear.ExprCnstr:=(k,⟨false,a.inc,b⟩)
noncomputable def Gp(k:Nat)(a b:Nat.Internal.Linear.Expr):Nat×Nat.Internal.Linear.ExprCnstr:=(k,⟨true,a,b⟩)
theorem linf(c:Nat.Internal.Linear.Context)(cs:List (Nat×Nat.Internal.Linear.ExprCnstr))(h:lbad (lsum cs)=true):lden c cs False:=lin_sum fun hs=>lbad_ff h hs
theorem Gh(c:Nat.Internal.Linear.Context)(k:Nat)(a b:Nat.Internal.Linear.Expr)(cs:List (Nat×Nat.Internal.Linear.ExprCnstr))(h:lbad (lsum (Ge k b a::cs))=true):lden c cs (a.denote c≤b.denote c):=
 lin_sum fun hs=>Nat.le_of_not_lt fun hn=>lbad_ff h (Nat.add_le_add (Nat.mul_le_mul_left k hn) hs)
theorem Jl(c:Nat.Internal.Linear.Context)(k:Nat)(a b:Nat.Internal.Linear.Expr)(cs:List (Nat×Nat.Internal.Linear.ExprCnstr))(h:lbad (lsum (Gb k b a::cs))=true):lden c cs (a.denote c<b.denote c):=
 lin_sum fun hs=>Nat.lt_of_not_le fun hn=>lbad_ff h (Nat.add_le_add (Nat.mul_le_mul_left k hn) hs)
noncomputable def G6(a b:Nat):Nat.Internal.Linear.Context:=.branch 1 (.leaf a) (.leaf b)
noncomputable def Y6(a b c:Nat):Nat.Internal.Linear.Context:=.branch 1 (.leaf a) (.branch 2 (.leaf b) (.leaf c))
noncomputable def lctx4(a b c d:Nat):Nat.Internal.Linear.Context:=.branch 2 (.branch 1 (.leaf a) (.leaf b)) (.branch 3 (.leaf c) (.leaf d))
noncomputable def lctx5(a b c d e:Nat):Nat.Internal.Linear.Context:=.branch 4 (lctx4 a b c d) (.leaf e)
noncomputable def lctx6(a b c d e f:Nat):Nat.Internal.Linear.Context:=.branch 4 (lctx4 a b c d) (.branch 5 (.leaf e) (.leaf f))
noncomputable def lctx8(a b c d e f g h:Nat):Nat.Internal.Linear.Context:=.branch 4 (lctx4 a b c d) (.branch 6 (.branch 5 (.leaf e) (.leaf f)) (.branch 7 (.leaf g) (.leaf h)))
theorem Yc{α:Type}{l:List α}{n:Nat}{a:α}(e:l[n]?=some a):n<l.length:=(Q6 e).1
theorem Ut{α:Type}{l:List α}{a x:α}{n:Nat}(e:(l++[a])[n]?=some x):l[n]?=some x∨n=l.length∧a=x:=by
 rcases Nat.lt_or_ge n l.length with hn|hn
 ·exact .inl ((List.getElem?_append_left hn).symm.trans e)
 ·have h:=Yc e;rw[Q8]at h;have h:=Nat.le_antisymm (Nat.le_of_lt_succ h) hn;subst h;exact .inr ⟨rfl,Option.some.inj (List.getElem?_concat_length.symm.trans e)⟩
theorem cps{B:Prop}(h:∀G:Prop,(B→G)→G):B:=h B id
@[elab_as_elim] theorem pr2 {α β:Type} {a:α} {b:β} {P:α→β→Prop} {c:α} {d:β} (e:(a,b)=(c,d)) (k:P a b):P c d:=by
 have e1:a=c:=congrArg Prod.fst e;have e2:b=d:=congrArg Prod.snd e;subst e1 e2;exact k
@[elab_as_elim] theorem pr3 {α β γ:Type} {a:α} {b:β} {g:γ} {P:α→β→γ→Prop} {c:α} {d:β} {f:γ} (e:(a,b,g)=(c,d,f)) (k:P a b g):P c d f:=pr2 (P:=fun a (x:β×γ)=>P a x.1 x.2) e k
inductive V where
 |none|bool (b:Bool)|int (i:Int)|str (k:Nat)|tup (l:List V)|loc (n:Nat)
inductive Ob where
 |list (xs:List V)|dict (es:List (List Int×V))|ro (xs:List V)|rod (es:List (List Int×V))
noncomputable def beqOb(a b:Ob):Bool:= @decide (a=b) (Classical.propDecidable _)
theorem beqOb_iff(a b:Ob):beqOb a b=true↔a=b:= @decide_eq_true_iff _ (Classical.propDecidable _)
abbrev Sto:=List Ob
abbrev Fr:=Nat→Option V
inductive BOp where|add|sub|mul|fdiv|mod|pow
inductive COp where|eq|ne|lt|le|gt|ge|is|isNot|isin|notIn
inductive Prim where|len|sum|max|min|abs|any|tuple|dict|sorted|int
inductive Meth where|append|extend|pop|reverse|sort
inductive ItK where|plain|range|enum|items
inductive Tg where|one (x:Nat)|many (xs:List Nat)
mutual
inductive Ex where
 |none|bool (b:Bool)|int (i:Int)|str (k:Nat)
 |var (x:Nat)|glob (g:Nat)
 |tup (es:Exs)|lst (es:Exs)|dict0
 |bin (op:BOp) (a b:Ex)|neg (a:Ex)|not (a:Ex)
 |and (es:Exs)|or (es:Exs)
 |cmp (op:COp) (a b:Ex)
 |ite (c a b:Ex)
 |sub (a b:Ex)|slice (a:Ex) (lo hi:Opt)|rev (a:Ex)
 |call (f:Nat) (es:Exs)
 |prim (p:Prim) (es:Exs)
 |meth (m:Meth) (o:Ex) (es:Exs)
 |lcomp (elt:Ex) (t:Tg) (k:ItK) (it:Ex) (cond:Opt)
 |lcomp2 (elt:Ex) (x:Nat) (k:ItK) (it:Ex) (y:Nat) (k2:ItK) (it2:Ex)
 |dcomp (key val:Ex) (x:Nat) (it:Ex)
inductive Exs where
 |nil|cons (e:Ex) (es:Exs)
inductive Opt where
 |no|yes (e:Ex)
end
mutual
inductive St where
 |expr (e:Ex)
 |asg (x:Nat) (e:Ex)
 |asgT (xs:List Nat) (e:Ex)
 |asgS (a i e:Ex)
 |aug (x:Nat) (e:Ex)
 |ite (c:Ex) (a b:Blk)
 |loop (c:Ex) (b:Blk)
 |for (t:Tg) (k:ItK) (it:Ex) (b:Blk)
 |ret (e:Ex)
 |cont
 |stuck
inductive Blk where
 |nil|cons (s:St) (b:Blk)
end
inductive Fl where|next|cont|ret (v:V)
structure Fn where
 params:List Nat
 body:Blk
noncomputable def lim:Nat:=100000
noncomputable def fits(i:Int):Bool:=decide (i.natAbs.log2<1000000)
noncomputable def upd(ρ:Fr)(x:Nat)(v:V):Fr:=fun y=>if y=x then some v else ρ y
noncomputable def drp(ρ:Fr)(xs:List Nat):Fr:=fun y=>if y∈xs then none else ρ y
noncomputable def upds:List Nat→List V→Fr→Option Fr
 |[],[],ρ=>some ρ
 |x::xs,v::vs,ρ=>upds xs vs (upd ρ x v)
 |_,_,_=>none
noncomputable def Uk:Tg→V→Fr→Option Fr
 |.one x,v,ρ=>some (upd ρ x v)
 |.many xs,.tup vs,ρ=>upds xs vs ρ
 |.many _,_,_=>none
noncomputable def Tg.vars:Tg→List Nat
 |.one x=>[x]
 |.many xs=>xs
noncomputable def Je:List V→Option (List Int)
 |[]=>some []
 |.int i::r=>(Je r).map (i::·)
 |_::_=>none
noncomputable def keyV(k:List Int):V:=.tup (k.map .int)
noncomputable def Ue:List (List Int×V)→List Int→Option V
 |[],_=>none
 |(k,v)::r,x=>if k=x then some v else Ue r x
noncomputable def dput:List (List Int×V)→List Int→V→List (List Int×V)
 |[],x,v=>[(x,v)]
 |(k,u)::r,x,v=>if k=x then(k,v)::r else(k,u)::dput r x v
noncomputable def ddel:List (List Int×V)→List Int→List (List Int×V)
 |[],_=>[]
 |(k,u)::r,x=>if k=x then r else(k,u)::ddel r x
noncomputable def Y8(f:V→V→Option Bool):List V→List V→Option Bool
 |[],[]=>some true
 |x::xs,y::ys=>match f x y,Y8 f xs ys with
  |some b,some c=>some (b&&c)
  |_,_=>none
 |_,_=>some false
noncomputable def eqRows(f:V→V→Option Bool)(b:List (List Int×V)):List (List Int×V)→Option Bool
 |[]=>some true
 |(k,v)::r=>match(match Ue b k with
  |none=>some false
  |some u=>f v u),eqRows f b r with
  |some x,some y=>some (x&&y)
  |_,_=>none
noncomputable def eqD:Nat→Sto→V→V→Option Bool
 |0,_,_,_=>none
 |_+1,_,.int a,.int b=>some (decide (a=b))
 |_+1,_,.bool a,.bool b=>some (decide (a=b))
 |_+1,_,.str a,.str b=>some (decide (a=b))
 |d+1,σ,.tup a,.tup b=>Y8 (eqD d σ) a b
 |d+1,σ,.loc m,.loc n=>if m=n then some true else match σ[m]?,σ[n]? with
  |some (.list a),some (.list b)=>if a.length=b.length then Y8 (eqD d σ) a b else some false
  |some (.dict a),some (.dict b)=>if a.length=b.length then eqRows (eqD d σ) b a else some false
  |_,_=>none
 |_+1,_,_,_=>none
noncomputable def Ze(f:V→V→Option Bool)(x:V):List V→Option Bool
 |[]=>some false
 |y::ys=>match f y x,Ze f x ys with
  |some b,some c=>some (b||c)
  |_,_=>none
noncomputable def V.asI(v:V):Option Int:=match v with
 |.int i=>some i
 |_=>Option.none
noncomputable def V.asT(v:V):Option (List V):=match v with
 |.tup i=>some i
 |_=>Option.none
noncomputable def ltList(o:Bool)(f:V→V→Option Bool)(g:V→V→Option Bool):List V→List V→Option Bool
 |[],[]=>some false
 |[],_::_=>some (!o)
 |_::_,[]=>some o
 |x::xs,y::ys=>(f x y).bind fun c=>cond c (ltList o f g xs ys) (g x y)
noncomputable def ltD(o:Bool):Nat→Sto→V→V→Option Bool
 |0,_,_,_=>none
 |d+1,σ,x,y=>match x with
  |.int a=>y.asI.bind fun b=>some (if o then decide (b<a)else decide (a<b))
  |.tup a=>y.asT.bind fun b=>ltList o (eqD d σ) (ltD o d σ) a b
  |_=>none
noncomputable def Yz{α:Type}(lt:Nat→Nat→Option Bool):PySem.W.KasT α→Option α
 |.ret a=>some a
 |.ask i j k=>match lt i j with
  |some b=>Yz lt (k b)
  |none=>none
noncomputable def tupInt:V→Bool
 |.tup (.int _::_)=>true
 |_=>false
noncomputable def tupTup:V→Bool
 |.tup (.tup _::_)=>true
 |_=>false
noncomputable def Yr(σ:Sto)(l:List V):Option (List V):=
 if l.length<2 then some l
 else if l.length<60∧(l.all tupInt||l.all tupTup)=true then
  (Yz (fun i j=>ltD false 8 σ (l.getD i .none) (l.getD j .none)) (PySem.W.kas_sort l.length)).map fun p=>p.toList.map fun i=>l.getD i .none
 else none
noncomputable def Jj:List (List Int):=(List.range 6).flatMap fun i=>(List.range 6).map fun j=>[Int.ofNat i,Int.ofNat j]
noncomputable def intsOf:List V→Option (List Int):=Je
noncomputable def V.tst{α:Type}(v:V)(x y:Option α):Option α:=match v with
 |.bool true=>x
 |.bool false=>y
 |_=>Option.none
noncomputable def Fl.nx{α:Type}(f:Fl)(x y:α):α:=match f with
 |.next=>x
 |_=>y
noncomputable def Fl.out(f:Fl)(σ:Sto):Option (V×Sto):=match f with
 |.ret v=>some (v,σ)
 |.next=>some (.none,σ)
 |.cont=>none
noncomputable def V.asB(v:V):Option Bool:=match v with
 |.bool i=>some i
 |_=>Option.none
noncomputable def V.asL(v:V):Option Nat:=match v with
 |.loc n=>some n
 |_=>Option.none
noncomputable def V.asN(v:V):Option Bool:=match v with
 |.none=>some true
 |.tup _=>some false
 |_=>Option.none
noncomputable def Ob.asLst(o:Ob):Option (List V):=match o with
 |.list l=>some l
 |_=>none
noncomputable def Ob.asLr(o:Ob):Option (List V):=match o with
 |.list l=>some l
 |.ro l=>some l
 |_=>none
noncomputable def Uu(l:List V):Option V:=match l with
 |[x]=>some x
 |_=>none
@[simp] theorem asI_i(i:Int):(V.int i).asI=some i:=rfl
@[simp] theorem asT_t(i:List V):(V.tup i).asT=some i:=rfl
@[simp] theorem asB_b(i:Bool):(V.bool i).asB=some i:=rfl
@[simp] theorem asL_l(i:Nat):(V.loc i).asL=some i:=rfl
@[simp] theorem asL_i(i:Int):(V.int i).asL=none:=rfl
@[simp] theorem asL_t(i:List V):(V.tup i).asL=none:=rfl
@[simp] theorem asL_n:V.none.asL=none:=rfl
@[simp] theorem asL_s(i:Nat):(V.str i).asL=none:=rfl
@[simp] theorem asL_b(i:Bool):(V.bool i).asL=none:=rfl
@[simp] theorem asN_n:V.none.asN=some true:=rfl
@[simp] theorem asN_t(i:List V):(V.tup i).asN=some false:=rfl
@[simp] theorem asLst_l(l:List V):(Ob.list l).asLst=some l:=rfl
@[simp] theorem asLr_l(l:List V):(Ob.list l).asLr=some l:=rfl
@[simp] theorem asLr_r(l:List V):(Ob.ro l).asLr=some l:=rfl
@[simp] theorem one1_1(x:V):Uu [x]=some x:=rfl
@[simp] theorem one1_2(x y:V):Uu [x,y]=none:=rfl
noncomputable def Jx(op:BOp)(x y:V)(σ:Sto):Option (V×Sto):=match op with
 |.add=>match x with
  |.int a=>y.asI.bind fun b=>some (.int (a+b),σ)
  |.tup a=>y.asT.bind fun b=>if a.length+b.length<lim then some (.tup (a++b),σ)else none
  |.loc m=>y.asL.bind fun n=>(σ[m]?.bind Ob.asLst).bind fun a=>(σ[n]?.bind Ob.asLst).bind fun b=>if a.length+b.length<lim then some (.loc σ.length,σ++[.list (a++b)])else none
  |_=>none
 |.sub=>x.asI.bind fun a=>y.asI.bind fun b=>some (.int (a-b),σ)
 |.mul=>match x with
  |.int a=>y.asI.bind fun b=>if(fits a&&fits b)=true then some (.int (a*b),σ)else none
  |.tup l=>y.asI.bind fun n=>(Uu l).bind fun x=>if n=2 then some (.tup [x,x],σ)else none
  |_=>none
 |.fdiv=>x.asI.bind fun a=>y.asI.bind fun b=>if b=0 then none else some (.int (a.fdiv b),σ)
 |.mod=>x.asI.bind fun a=>y.asI.bind fun b=>if b=0 then none else some (.int (a.fmod b),σ)
 |.pow=>x.asI.bind fun a=>y.asI.bind fun b=>if 0≤b∧b<100000∧a.natAbs<100 then some (.int (a^b.toNat),σ)else none
noncomputable def memb(x y:V)(σ:Sto):Option Bool:=
 match y with
 |.tup b=>Ze (eqD 8 σ) x b
 |.loc n=>match σ[n]? with
  |some (.list b)=>Ze (eqD 8 σ) x b
  |some (.dict es)=>match x with
   |.tup k=>(Je k).map fun k=>(Ue es k).isSome
   |_=>none
  |_=>none
 |_=>none
noncomputable def eqB(x y:V)(σ:Sto):Option Bool:=match x.asL with
 |none=>eqD 8 σ x y
 |some m=>match y.asL with
  |none=>eqD 8 σ x y
  |some n=>(σ[n]?.bind Ob.asLst).bind fun _=>if m=n then none else eqD 8 σ x y
noncomputable def Gy(op:COp)(x y:V)(σ:Sto):Option Bool:=
 match op with
 |.eq=>eqB x y σ
 |.ne=>(eqB x y σ).map (!·)
 |.lt=>match x with
  |.int a=>y.asI.bind fun b=>some (decide (a<b))
  |.tup _=>y.asT.bind fun _=>ltD false 8 σ x y
  |_=>none
 |.gt=>match x with
  |.int a=>y.asI.bind fun b=>some (decide (b<a))
  |.tup _=>y.asT.bind fun _=>ltD true 8 σ x y
  |_=>none
 |.le=>x.asI.bind fun a=>y.asI.bind fun b=>some (decide (a≤b))
 |.ge=>x.asI.bind fun a=>y.asI.bind fun b=>some (decide (b≤a))
 |.is=>match y with
  |.none=>x.asN
  |_=>none
 |.isNot=>match y with
  |.none=>x.asN.map (!·)
  |_=>none
 |.isin=>memb x y σ
 |.notIn=>(memb x y σ).map (!·)
noncomputable def Ob.asRows(o:Ob):Option (List (List Int×V)):=match o with
 |.dict l=>some l
 |.rod l=>some l
 |_=>none
@[simp] theorem asRows_d(l:List (List Int×V)):(Ob.dict l).asRows=some l:=rfl
@[simp] theorem asRows_r(l:List (List Int×V)):(Ob.rod l).asRows=some l:=rfl
noncomputable def Jg(x i:V)(σ:Sto):Option V:=
 match i with
 |.int i=>((match x with
  |.tup l=>some l
  |.loc n=>σ[n]?.bind Ob.asLst
  |_=>none):Option (List V)).bind fun l=>if 0≤i∧i<2^63 then l[i.toNat]? else none
 |.tup k=>x.asL.bind fun n=>(σ[n]?.bind Ob.asRows).bind fun es=>(Je k).bind fun k=>Ue es k
 |_=>none
noncomputable def bnd(len:Nat)(d:Nat):Option V→Option Nat
 |none=>some d
 |some (.int i)=>if 0≤i∧i<2^62 then some (min i.toNat len)else none
 |_=>none
noncomputable def Jc(x:V)(lo hi:Option V)(σ:Sto):Option (V×Sto):=
 match x with
 |.tup l=>if l.length<lim then match bnd l.length 0 lo,bnd l.length l.length hi with
  |some a,some b=>some (.tup ((l.take b).drop a),σ)
  |_,_=>none
  else none
 |.loc n=>match σ[n]? with
  |some (.list l)|some (.ro l)=>if l.length<lim then match bnd l.length 0 lo,bnd l.length l.length hi with
   |some a,some b=>some (.loc σ.length,σ++[.list ((l.take b).drop a)])
   |_,_=>none
   else none
  |_=>none
 |_=>none
noncomputable def sumI:List Int→Int→Int
 |[],a=>a
 |x::r,a=>sumI r (a+x)
noncomputable def maxI:List Int→Int→Int
 |[],a=>a
 |x::r,a=>maxI r (if a<x then x else a)
noncomputable def anyV:List V→Option Bool
 |[]=>some false
 |.bool b::r=>(anyV r).map (b||·)
 |_=>none
noncomputable def Z2:List V→List (List Int×V)→Option (List (List Int×V))
 |[],acc=>some acc
 |.tup [.tup k,v]::r,acc=>match Je k with
  |some k=>Z2 r (dput acc k v)
  |none=>none
 |_::_,_=>none
noncomputable def Gn(v:V)(σ:Sto):Option (List V):=
 match v with
 |.tup l=>some l
 |.loc n=>match σ[n]? with
  |some (.list l)=>some l
  |_=>none
 |_=>none
noncomputable def Ob.len(o:Ob):Option Nat:=match o with
 |.list l=>some l.length
 |.dict l=>some l.length
 |_=>none
@[simp] theorem len_l(l:List V):(Ob.list l).len=some l.length:=rfl
@[simp] theorem len_d(l:List (List Int×V)):(Ob.dict l).len=some l.length:=rfl
noncomputable def maxL(l:List Int):Option Int:=match l with
 |a::l=>some (maxI l a)
 |[]=>none
@[simp] theorem maxL_c(a:Int)(l:List Int):maxL (a::l)=some (maxI l a):=rfl
noncomputable def two2(l:List V):Option (V×V):=match l with
 |[x,y]=>some (x,y)
 |_=>none
@[simp] theorem two2_2(x y:V):two2 [x,y]=some (x,y):=rfl
noncomputable def mkDict(o:Ob)(σ:Sto):Option (V×Sto):=match o with
 |.dict es=>if es.length<lim∧(es.all fun e=>Jj.contains e.1)=true then some (.loc σ.length,σ++[.dict es])else none
 |.list l=>if l.length<lim then(Z2 l []).bind fun es=>some (.loc σ.length,σ++[.dict es])else none
 |_=>none
noncomputable def Jd(p:Prim)(vs:List V)(σ:Sto):Option (V×Sto):=
 match p with
 |.len=>(Uu vs).bind fun v=>v.asL.bind fun n=>(σ[n]?.bind Ob.len).bind fun m=>if m<lim then some (.int m,σ)else none
 |.sum=>(Uu vs).bind fun v=>((Gn v σ).bind intsOf).bind fun l=>some (.int (sumI l 0),σ)
 |.max=>match Uu vs with
  |some v=>v.asL.bind fun n=>((Gn (.loc n) σ).bind intsOf).bind fun l=>(maxL l).bind fun a=>some (.int a,σ)
  |none=>(two2 vs).bind fun p=>p.1.asI.bind fun a=>p.2.asI.bind fun b=>some (.int (if a<b then b else a),σ)
 |.min=>(two2 vs).bind fun p=>p.1.asI.bind fun a=>p.2.asI.bind fun b=>some (.int (if b<a then b else a),σ)
 |.abs=>(Uu vs).bind fun v=>v.asI.bind fun a=>some (.int a.natAbs,σ)
 |.any=>(Uu vs).bind fun v=>v.asL.bind fun n=>((Gn (.loc n) σ).bind anyV).bind fun b=>some (.bool b,σ)
 |.tuple=>(Uu vs).bind fun v=>v.asL.bind fun n=>(Gn (.loc n) σ).bind fun l=>if l.length<lim then some (.tup l,σ)else none
 |.dict=>(Uu vs).bind fun v=>v.asL.bind fun n=>σ[n]?.bind fun o=>mkDict o σ
 |.sorted=>(Uu vs).bind fun v=>v.asL.bind fun n=>(Gn (.loc n) σ).bind fun l=>(Yr (σ++[.list []]) l).bind fun l'=>some (.loc σ.length,σ++[.list l'])
 |.int=>(Uu vs).bind fun v=>v.asI.bind fun a=>some (.int a,σ)
noncomputable def Yg(σ:Sto):V→Nat
 |.loc n=>match σ[n]? with
  |some (.list _)=>1
  |some (.dict _)=>2
  |_=>0
 |_=>0
noncomputable def methL(m:Meth)(n:Nat)(l vs:List V)(σ:Sto):Option (V×Sto):=match m with
 |.append=>(Uu vs).bind fun x=>if l.length<lim then some (.none,σ.set n (.list (l++[x])))else none
 |.extend=>(Uu vs).bind fun y=>y.asL.bind fun k=>(σ[k]?.bind Ob.asLst).bind fun r=>if k≠n∧l.length+r.length<lim then some (.none,σ.set n (.list (l++r)))else none
 |.pop=>match vs with
  |[]=>if l.length<lim then l.getLast?.bind fun x=>some (x,σ.set n (.list l.dropLast))else none
  |i::r=>i.asI.bind fun i=>match l with
   |x::l=>if(r=[]∧i=0)∧l.length<lim then some (x,σ.set n (.list l))else none
   |[]=>none
 |.reverse=>if vs=[]∧l.length<lim then some (.none,σ.set n (.list l.reverse))else none
 |.sort=>if vs=[]then(Yr (σ.set n (.list [])) l).bind fun l'=>some (.none,σ.set n (.list l'))else none
noncomputable def popA(vs:List V):Option (List V×Bool):=match Uu vs with
 |some t=>t.asT.bind fun k=>some (k,false)
 |none=>(two2 vs).bind fun p=>p.1.asT.bind fun k=>match p.2 with
  |.none=>some (k,true)
  |_=>none
@[simp] theorem popA_1(k:List V):popA [.tup k]=some (k,false):=rfl
@[simp] theorem popA_2(k:List V):popA [.tup k,.none]=some (k,true):=rfl
noncomputable def methD(n:Nat)(es:List (List Int×V))(vs:List V)(σ:Sto):Option (V×Sto):=
 (popA vs).bind fun a=>(Je a.1).bind fun k=>if es.length<lim then match Ue es k with
  |some v=>some (v,σ.set n (.dict (ddel es k)))
  |none=>if a.2=true then some (.none,σ)else none
 else none
noncomputable def Ji(m:Meth)(o:V)(vs:List V)(σ:Sto):Option (V×Sto):=
 o.asL.bind fun n=>σ[n]?.bind fun ob=>match ob with
  |.list l=>methL m n l vs σ
  |.dict es=>match m with
   |.pop=>methD n es vs σ
   |_=>none
  |_=>none
noncomputable def Zm(a i v:V)(σ:Sto):Option Sto:=
 match a,i with
 |.loc n,.tup k=>match σ[n]?,Je k with
  |some (.dict es),some k=>if es.length<lim then some (σ.set n (.dict (dput es k v)))else none
  |_,_=>none
 |.loc n,.int i=>match σ[n]? with
  |some (.list l)=>if 0≤i∧i<2^62∧i.toNat<l.length then some (σ.set n (.list (l.set i.toNat v)))else none
  |_=>none
 |_,_=>none
noncomputable def Zc(n:Nat):List V:=(List.range n).map fun i=>V.int (Int.ofNat i)
noncomputable def Uj:Nat→List V→List V
 |_,[]=>[]
 |i,x::r=>.tup [.int (i:Int),x]::Uj (i+1) r
structure Src where
 items:List V
 guard:Option (Nat×Ob)
 back:Option (Nat×Ob)
noncomputable def Gx(k:ItK)(v:V)(σ:Sto):Option (Src×Sto):=
 match k,v with
 |.plain,.tup l=>some (⟨l,none,none⟩,σ)
 |.plain,.loc n=>match σ[n]? with
  |some (.list l)=>some (⟨l,some (n,.ro l),some (n,.list l)⟩,σ.set n (.ro l))
  |some (.dict es)=>some (⟨es.map fun e=>keyV e.1,some (n,.rod es),some (n,.dict es)⟩,σ.set n (.rod es))
  |_=>none
 |.range,.int n=>if 0≤n∧n<100000 then some (⟨Zc n.toNat,none,none⟩,σ)else none
 |.enum,.tup l=>some (⟨Uj 0 l,none,none⟩,σ)
 |.enum,.loc n=>match σ[n]? with
  |some (.list l)=>some (⟨Uj 0 l,some (n,.ro l),some (n,.list l)⟩,σ.set n (.ro l))
  |_=>none
 |.items,.loc n=>match σ[n]? with
  |some (.dict es)=>some (⟨es.map fun e=>.tup [keyV e.1,e.2],some (n,.rod es),some (n,.dict es)⟩,σ.set n (.rod es))
  |_=>none
 |_,_=>none
noncomputable def Src.free(s:Src)(σ:Sto):Sto:=match s.back with
 |none=>σ
 |some (n,o)=>σ.set n o
noncomputable def Src.ok(s:Src)(σ:Sto):Bool:=match s.guard with
 |none=>true
 |some (n,o)=>match σ[n]? with
  |some o'=>beqOb o' o
  |none=>false
noncomputable def J3{α:Type}(src:Src)(turn:V→α→Sto→Option (α×Sto)):List V→α→Sto→Option (α×Sto)
 |[],a,σ=>if src.ok σ then some (a,src.free σ)else none
 |x::xs,a,σ=>if src.ok σ then match turn x a σ with
  |some (a',σ')=>J3 src turn xs a' σ'
  |none=>none
  else none
noncomputable def loopW(N:Nat)(test:Fr→Sto→Option (V×Sto))(body:Fr→Sto→Option (Fl×Fr×Sto))(ρ:Fr)(σ:Sto):Option (Fl×Fr×Sto):=
 match N with
 |0=>none
 |n+1=>(test ρ σ).bind fun r=>r.1.tst ((body ρ r.2).bind fun q=>match q.1 with
  |.ret v=>some (.ret v,q.2.1,q.2.2)
  |_=>loopW n test body q.2.1 q.2.2) (some (.next,ρ,r.2))
noncomputable def loopF(src:Src)(bind:V→Fr→Option Fr)(body:Fr→Sto→Option (Fl×Fr×Sto)):List V→Fr→Sto→Option (Fl×Fr×Sto)
 |[],ρ,σ=>if src.ok σ then some (.next,ρ,src.free σ)else none
 |x::xs,ρ,σ=>if src.ok σ then match bind x ρ with
  |some ρ₁=>match body ρ₁ σ with
   |some (.ret v,ρ',σ')=>if src.ok σ' then some (.ret v,ρ',src.free σ')else none
   |some (_,ρ',σ')=>loopF src bind body xs ρ' σ'
   |none=>none
  |none=>none
  else none
noncomputable def glob:Nat→Option V
 |0=>some (.tup [.int 0,.int 1])
 |1=>some (.tup [.int 1,.int 1])
 |2=>some (.int 200000)
 |3=>some (.int 20000)
 |4=>some (.int 3000000)
 |_=>none
abbrev Calls:=Nat→List V→Sto→Option (V×Sto)
mutual
noncomputable def evE(Φ:Calls):Ex→Fr→Sto→Option (V×Sto)
 |.none,_,σ=>some (.none,σ)
 |.bool b,_,σ=>some (.bool b,σ)
 |.int i,_,σ=>some (.int i,σ)
 |.str k,_,σ=>some (.str k,σ)
 |.var x,ρ,σ=>(ρ x).bind fun v=>some (v,σ)
 |.glob g,_,σ=>(glob g).bind fun v=>some (v,σ)
 |.tup es,ρ,σ=>(Uc Φ es ρ σ).bind fun r=>some (.tup r.1,r.2)
 |.lst es,ρ,σ=>(Uc Φ es ρ σ).bind fun r=>some (.loc r.2.length,r.2++[.list r.1])
 |.dict0,_,σ=>some (.loc σ.length,σ++[.dict []])
 |.bin op a b,ρ,σ=>(evE Φ a ρ σ).bind fun x=>(evE Φ b ρ x.2).bind fun y=>Jx op x.1 y.1 y.2
 |.neg a,ρ,σ=>(evE Φ a ρ σ).bind fun x=>x.1.asI.bind fun i=>some (.int (-i),x.2)
 |.not a,ρ,σ=>(evE Φ a ρ σ).bind fun x=>x.1.asB.bind fun i=>some (.bool (!i),x.2)
 |.and es,ρ,σ=>evAnd Φ es ρ σ
 |.or es,ρ,σ=>evOr Φ es ρ σ
 |.cmp op a b,ρ,σ=>(evE Φ a ρ σ).bind fun x=>(evE Φ b ρ x.2).bind fun y=>(Gy op x.1 y.1 y.2).bind fun r=>some (.bool r,y.2)
 |.ite c a b,ρ,σ=>(evE Φ c ρ σ).bind fun x=>x.1.tst (evE Φ a ρ x.2) (evE Φ b ρ x.2)
 |.sub a b,ρ,σ=>(evE Φ a ρ σ).bind fun x=>(evE Φ b ρ x.2).bind fun y=>(Jg x.1 y.1 y.2).bind fun r=>some (r,y.2)
 |.slice a lo hi,ρ,σ=>(evE Φ a ρ σ).bind fun x=>(evO Φ lo ρ x.2).bind fun l=>(evO Φ hi ρ l.2).bind fun h=>Jc x.1 l.1 h.1 h.2
 |.rev a,ρ,σ=>(evE Φ a ρ σ).bind fun x=>x.1.asT.bind fun l=>if l.length<lim then some (.tup l.reverse,x.2)else none
 |.call f es,ρ,σ=>(Uc Φ es ρ σ).bind fun r=>Φ f r.1 r.2
 |.prim p es,ρ,σ=>(Uc Φ es ρ σ).bind fun r=>Jd p r.1 r.2
 |.meth m o es,ρ,σ=>(evE Φ o ρ σ).bind fun x=>(Uc Φ es ρ x.2).bind fun r=>if Yg x.2 x.1=Yg r.2 x.1 then Ji m x.1 r.1 r.2 else none
 |.lcomp elt t k it cond,ρ,σ=>(evE Φ it ρ σ).bind fun v=>(Gx k v.1 v.2).bind fun s=>(J3 s.1 (fun x acc σ=>(Uk t x (drp ρ t.vars)).bind fun ρ'=>(evC Φ cond ρ' σ).bind fun c=>if c.1=true then(evE Φ elt ρ' c.2).bind fun y=>if acc.length<lim then some (acc++[y.1],y.2)else none else some (acc,c.2)) s.1.items [] s.2).bind fun r=>some (.loc r.2.length,r.2++[.list r.1])
 |.lcomp2 elt x k it y k2 it2,ρ,σ=>(evE Φ it ρ σ).bind fun v=>(Gx k v.1 v.2).bind fun s=>(J3 s.1 (fun xv acc σ=>(evE Φ it2 (upd (drp ρ [x,y]) x xv) σ).bind fun v=>(Gx k2 v.1 v.2).bind fun s=>J3 s.1 (fun yv acc σ=>(evE Φ elt (upd (upd (drp ρ [x,y]) x xv) y yv) σ).bind fun z=>if acc.length<lim then some (acc++[z.1],z.2)else none) s.1.items acc s.2) s.1.items [] s.2).bind fun r=>some (.loc r.2.length,r.2++[.list r.1])
 |.dcomp key val x it,ρ,σ=>(evE Φ it ρ σ).bind fun v=>(Gx .plain v.1 v.2).bind fun s=>(J3 s.1 (fun xv acc σ=>(evE Φ key (upd (drp ρ [x]) x xv) σ).bind fun kv=>kv.1.asT.bind fun kt=>(evE Φ val (upd (drp ρ [x]) x xv) kv.2).bind fun y=>(Je kt).bind fun k=>if acc.length<lim then some (dput acc k y.1,y.2)else none) s.1.items [] s.2).bind fun r=>some (.loc r.2.length,r.2++[.dict r.1])
noncomputable def Uc(Φ:Calls):Exs→Fr→Sto→Option (List V×Sto)
 |.nil,_,σ=>some ([],σ)
 |.cons e es,ρ,σ=>(evE Φ e ρ σ).bind fun x=>(Uc Φ es ρ x.2).bind fun r=>some (x.1::r.1,r.2)
noncomputable def evAnd(Φ:Calls):Exs→Fr→Sto→Option (V×Sto)
 |.nil,_,_=>none
 |.cons e .nil,ρ,σ=>(evE Φ e ρ σ).bind fun x=>x.1.asB.bind fun b=>some (.bool b,x.2)
 |.cons e (.cons e2 es),ρ,σ=>(evE Φ e ρ σ).bind fun x=>x.1.tst (evAnd Φ (.cons e2 es) ρ x.2) (some (.bool false,x.2))
noncomputable def evOr(Φ:Calls):Exs→Fr→Sto→Option (V×Sto)
 |.nil,_,_=>none
 |.cons e .nil,ρ,σ=>(evE Φ e ρ σ).bind fun x=>x.1.asB.bind fun b=>some (.bool b,x.2)
 |.cons e (.cons e2 es),ρ,σ=>(evE Φ e ρ σ).bind fun x=>x.1.tst (some (.bool true,x.2)) (evOr Φ (.cons e2 es) ρ x.2)
noncomputable def evO(Φ:Calls):Opt→Fr→Sto→Option (Option V×Sto)
 |.no,_,σ=>some (none,σ)
 |.yes e,ρ,σ=>(evE Φ e ρ σ).bind fun x=>some (some x.1,x.2)
noncomputable def evC(Φ:Calls):Opt→Fr→Sto→Option (Bool×Sto)
 |.no,_,σ=>some (true,σ)
 |.yes e,ρ,σ=>(evE Φ e ρ σ).bind fun x=>x.1.asB.bind fun b=>some (b,x.2)
end
mutual
noncomputable def exS(Φ:Calls)(N:Nat):St→Fr→Sto→Option (Fl×Fr×Sto)
 |.expr e,ρ,σ=>(evE Φ e ρ σ).bind fun x=>some (.next,ρ,x.2)
 |.asg x e,ρ,σ=>(evE Φ e ρ σ).bind fun v=>some (.next,upd ρ x v.1,v.2)
 |.asgT xs e,ρ,σ=>(evE Φ e ρ σ).bind fun v=>v.1.asT.bind fun vs=>(upds xs vs ρ).bind fun ρ'=>some (.next,ρ',v.2)
 |.asgS a i e,ρ,σ=>(evE Φ e ρ σ).bind fun v=>(evE Φ a ρ v.2).bind fun x=>(evE Φ i ρ x.2).bind fun j=>(Zm x.1 j.1 v.1 j.2).bind fun s=>some (.next,ρ,s)
 |.aug x e,ρ,σ=>(ρ x).bind fun a=>a.asI.bind fun a=>(evE Φ e ρ σ).bind fun b=>b.1.asI.bind fun i=>some (.next,upd ρ x (.int (a+i)),b.2)
 |.ite c a b,ρ,σ=>(evE Φ c ρ σ).bind fun x=>x.1.tst (exB Φ N a ρ x.2) (exB Φ N b ρ x.2)
 |.loop c b,ρ,σ=>loopW N (evE Φ c) (exB Φ N b) ρ σ
 |.for t k it b,ρ,σ=>(evE Φ it ρ σ).bind fun v=>(Gx k v.1 v.2).bind fun s=>loopF s.1 (Uk t) (exB Φ N b) s.1.items ρ s.2
 |.ret e,ρ,σ=>(evE Φ e ρ σ).bind fun v=>some (.ret v.1,ρ,v.2)
 |.cont,ρ,σ=>some (.cont,ρ,σ)
 |.stuck,_,_=>none
noncomputable def exB(Φ:Calls)(N:Nat):Blk→Fr→Sto→Option (Fl×Fr×Sto)
 |.nil,ρ,σ=>some (.next,ρ,σ)
 |.cons s b,ρ,σ=>(exS Φ N s ρ σ).bind fun r=>r.1.nx (exB Φ N b r.2.1 r.2.2) (some r)
end
noncomputable def G0(P:List Fn)(N:Nat):Nat→Calls
 |0,_,_,_=>none
 |k+1,f,args,σ=>P[f]?.bind fun fn=>(upds fn.params args fun _=>none).bind fun ρ=>(exB (G0 P N k) N fn.body ρ σ).bind fun r=>r.1.out r.2.2
theorem bnx{α β:Type}{x:Option α}{f:α→Option β}{b:β}(h:x.bind f=some b):∃a,x=some a∧f a=some b:=by
 cases x with
 |none=>cases h
 |some a=>exact⟨a,rfl,h⟩
theorem nG{P:Prop}(h:¬P→False):P:=Classical.byContradiction h
theorem zA2{c0 c1 P:Prop}(h:c0∧c1)(k:c0→c1→P):P:=k h.1 h.2
theorem zA3{c0 c1 c2 P:Prop}(h:c0∧c1∧c2)(k:c0→c1→c2→P):P:=k h.1 h.2.1 h.2.2
theorem zA4{c0 c1 c2 c3 P:Prop}(h:c0∧c1∧c2∧c3)(k:c0→c1→c2→c3→P):P:=k h.1 h.2.1 h.2.2.1 h.2.2.2
theorem zA5{c0 c1 c2 c3 c4 P:Prop}(h:c0∧c1∧c2∧c3∧c4)(k:c0→c1→c2→c3→c4→P):P:=k h.1 h.2.1 h.2.2.1 h.2.2.2.1 h.2.2.2.2
theorem z11{α0:Type}{p0:α0→Prop}{P:Prop}(h:∃x0,p0 x0)(k:∀x0,p0 x0→P):P:=h.elim fun x0 h=>k x0 h
theorem z12{α0:Type}{p0 p1:α0→Prop}{P:Prop}(h:∃x0,p0 x0∧p1 x0)(k:∀x0,p0 x0→p1 x0→P):P:=h.elim fun x0 h=>k x0 h.1 h.2
theorem z13{α0:Type}{p0 p1 p2:α0→Prop}{P:Prop}(h:∃x0,p0 x0∧p1 x0∧p2 x0)(k:∀x0,p0 x0→p1 x0→p2 x0→P):P:=h.elim fun x0 h=>k x0 h.1 h.2.1 h.2.2
theorem z14{α0:Type}{p0 p1 p2 p3:α0→Prop}{P:Prop}(h:∃x0,p0 x0∧p1 x0∧p2 x0∧p3 x0)(k:∀x0,p0 x0→p1 x0→p2 x0→p3 x0→P):P:=h.elim fun x0 h=>k x0 h.1 h.2.1 h.2.2.1 h.2.2.2
theorem z21{α0 α1:Type}{p0:α0→α1→Prop}{P:Prop}(h:∃x0 x1,p0 x0 x1)(k:∀x0 x1,p0 x0 x1→P):P:=h.elim fun x0 h=>h.elim fun x1 h=>k x0 x1 h
theorem z22{α0 α1:Type}{p0 p1:α0→α1→Prop}{P:Prop}(h:∃x0 x1,p0 x0 x1∧p1 x0 x1)(k:∀x0 x1,p0 x0 x1→p1 x0 x1→P):P:=h.elim fun x0 h=>h.elim fun x1 h=>k x0 x1 h.1 h.2
theorem z23{α0 α1:Type}{p0 p1 p2:α0→α1→Prop}{P:Prop}(h:∃x0 x1,p0 x0 x1∧p1 x0 x1∧p2 x0 x1)(k:∀x0 x1,p0 x0 x1→p1 x0 x1→p2 x0 x1→P):P:=h.elim fun x0 h=>h.elim fun x1 h=>k x0 x1 h.1 h.2.1 h.2.2
theorem z24{α0 α1:Type}{p0 p1 p2 p3:α0→α1→Prop}{P:Prop}(h:∃x0 x1,p0 x0 x1∧p1 x0 x1∧p2 x0 x1∧p3 x0 x1)(k:∀x0 x1,p0 x0 x1→p1 x0 x1→p2 x0 x1→p3 x0 x1→P):P:=h.elim fun x0 h=>h.elim fun x1 h=>k x0 x1 h.1 h.2.1 h.2.2.1 h.2.2.2
theorem z31{α0 α1 α2:Type}{p0:α0→α1→α2→Prop}{P:Prop}(h:∃x0 x1 x2,p0 x0 x1 x2)(k:∀x0 x1 x2,p0 x0 x1 x2→P):P:=h.elim fun x0 h=>h.elim fun x1 h=>h.elim fun x2 h=>k x0 x1 x2 h
theorem z32{α0 α1 α2:Type}{p0 p1:α0→α1→α2→Prop}{P:Prop}(h:∃x0 x1 x2,p0 x0 x1 x2∧p1 x0 x1 x2)(k:∀x0 x1 x2,p0 x0 x1 x2→p1 x0 x1 x2→P):P:=h.elim fun x0 h=>h.elim fun x1 h=>h.elim fun x2 h=>k x0 x1 x2 h.1 h.2
theorem z33{α0 α1 α2:Type}{p0 p1 p2:α0→α1→α2→Prop}{P:Prop}(h:∃x0 x1 x2,p0 x0 x1 x2∧p1 x0 x1 x2∧p2 x0 x1 x2)(k:∀x0 x1 x2,p0 x0 x1 x2→p1 x0 x1 x2→p2 x0 x1 x2→P):P:=h.elim fun x0 h=>h.elim fun x1 h=>h.elim fun x2 h=>k x0 x1 x2 h.1 h.2.1 h.2.2
theorem z34{α0 α1 α2:Type}{p0 p1 p2 p3:α0→α1→α2→Prop}{P:Prop}(h:∃x0 x1 x2,p0 x0 x1 x2∧p1 x0 x1 x2∧p2 x0 x1 x2∧p3 x0 x1 x2)(k:∀x0 x1 x2,p0 x0 x1 x2→p1 x0 x1 x2→p2 x0 x1 x2→p3 x0 x1 x2→P):P:=h.elim fun x0 h=>h.elim fun x1 h=>h.elim fun x2 h=>k x0 x1 x2 h.1 h.2.1 h.2.2.1 h.2.2.2
theorem bnE{α β:Type}{x:Option α}{f:α→Option β}{b:β}{P:Prop}(h:x.bind f=some b)(k:∀a,x=some a→f a=some b→P):P:=by
 obtain⟨a,e,h⟩:=bnx h;exact k a e h
theorem bnP{α γ β:Type}{x:Option (α×γ)}{f:α×γ→Option β}{b:β}{P:Prop}(h:x.bind f=some b)(k:∀a c,x=some (a,c)→f (a,c)=some b→P):P:=by
 obtain⟨a,e,h⟩:=bnx h;exact k a.1 a.2 e h
theorem si{α β:Type}{a c:α}{b d:β}(h:some (a,b)=some (c,d)):a=c∧b=d:=by cases h;exact⟨rfl,rfl⟩
theorem si3{α β γ:Type}{a c:α}{b d:β}{x y:γ}(h:some (a,b,x)=some (c,d,y)):a=c∧b=d∧x=y:=by cases h;exact⟨rfl,rfl,rfl⟩
theorem asB_inv{v:V}{b:Bool}(h:v.asB=some b):v=.bool b:=by
 cases v with
 |bool=>cases h;rfl
 |_=>cases h
theorem Yd{v:V}{b:Int}(h:v.asI=some b):v=.int b:=by
 cases v with
 |int=>cases h;rfl
 |_=>cases h
theorem Yu{v:V}{b:List V}(h:v.asT=some b):v=.tup b:=by
 cases v with
 |tup=>cases h;rfl
 |_=>cases h
theorem tst_inv{α:Type}{v:V}{x y:Option α}{r:α}(h:v.tst x y=some r):(v=.bool true∧x=some r)∨(v=.bool false∧y=some r):=by
 cases v with
 |bool b=>
  cases b with
  |true=>exact .inl ⟨rfl,h⟩
  |false=>exact .inr ⟨rfl,h⟩
 |_=>cases h
theorem Gz{α:Type}{c:Prop}[Decidable c]{x:Option α}{r:α}(h:(if c then x else none)=some r):c∧x=some r:=by
 by_cases hc:c
 ·rw[if_pos hc]at h;exact⟨hc,h⟩
 ·rw[if_neg hc]at h;cases h
theorem asL_inv{v:V}{b:Nat}(h:v.asL=some b):v=.loc b:=by
 cases v with
 |loc=>cases h;rfl
 |_=>cases h
theorem asN_inv{v:V}{b:Bool}(h:v.asN=some b):(v=.none∧b=true)∨((∃l,v=.tup l)∧b=false):=by
 cases v with
 |none=>cases h;exact .inl ⟨rfl,rfl⟩
 |tup l=>cases h;exact .inr ⟨⟨l,rfl⟩,rfl⟩
 |_=>cases h
theorem asLst_inv{o:Option Ob}{l:List V}(h:o.bind Ob.asLst=some l):o=some (.list l):=by
 obtain⟨o,rfl,h⟩:=bnx h;cases o with
 |list=>cases h;rfl
 |_=>cases h
theorem asRows_inv{o:Option Ob}{l:List (List Int×V)}(h:o.bind Ob.asRows=some l):o=some (.dict l)∨o=some (.rod l):=by
 obtain⟨o,rfl,h⟩:=bnx h;cases o with
 |dict=>cases h;exact .inl rfl
 |rod=>cases h;exact .inr rfl
 |_=>cases h
theorem one1_inv{l:List V}{x:V}(h:Uu l=some x):l=[x]:=by
 match l with
 |[]=>cases h
 |[y]=>cases h;rfl
 |_::_::_=>cases h
theorem ifn_inv{α:Type}{c:Prop}[Decidable c]{x:Option α}{r:α}(h:(if c then none else x)=some r):¬c∧x=some r:=by
 by_cases hc:c
 ·rw[if_pos hc]at h;cases h
 ·rw[if_neg hc]at h;exact⟨hc,h⟩
theorem two2_inv{l:List V}{x:V×V}(h:two2 l=some x):l=[x.1,x.2]:=by
 match l with
 |[]=>cases h
 |[y]=>cases h
 |[y,z]=>cases h;rfl
 |_::_::_::_=>cases h
theorem popA_inv{vs:List V}{a:List V×Bool}(h:popA vs=some a):(vs=[.tup a.1]∧a.2=false)∨(vs=[.tup a.1,.none]∧a.2=true):=by
 unfold popA at h;cases e:Uu vs with
 |some t=>
  rw[e]at h;obtain⟨k,hk,h⟩:=bnx h;cases h;rw[one1_inv e,Yu hk];exact .inl ⟨rfl,rfl⟩
 |none=>
  rw[e]at h;obtain⟨⟨x,y⟩,hp,h⟩:=bnx h;obtain⟨k,hk,h⟩:=bnx h;cases y with
  |none=>
   cases h;rw[two2_inv hp,Yu hk];exact .inr ⟨rfl,rfl⟩
  |_=>cases h
theorem len_inv{o:Option Ob}{m:Nat}(h:o.bind Ob.len=some m):(∃l,o=some (.list l)∧m=l.length)∨∃l,o=some (.dict l)∧m=l.length:=by
 obtain⟨o,rfl,h⟩:=bnx h;cases o with
 |list l=>cases h;exact .inl ⟨l,rfl,rfl⟩
 |dict l=>cases h;exact .inr ⟨l,rfl,rfl⟩
 |_=>cases h
theorem maxL_inv{l:List Int}{a:Int}(h:maxL l=some a):∃x r,l=x::r∧a=maxI r x:=by
 cases l with
 |nil=>cases h
 |cons x r=>cases h;exact⟨x,r,rfl,rfl⟩
noncomputable def f_order_key:Fn:=⟨[0,1],(.cons (.ite (.cmp .eq (.var 0) (.str 0)) (.cons (.ret (.var 1)) .nil) .nil) (.cons (.ite (.cmp .eq (.var 0) (.str 1)) (.cons (.ret (.bin .add (.tup (.cons (.prim .sum (.cons (.var 1) .nil)) .nil)) (.var 1))) .nil) .nil) (.cons (.ite (.cmp .eq (.var 0) (.str 2)) (.cons (.ret (.bin .add (.tup (.cons (.prim .sum (.cons (.var 1) .nil)) .nil)) (.prim .tuple (.cons (.lcomp (.neg (.var 2)) (.one 2) .plain (.rev (.var 1)) .no) .nil)))) .nil) .nil) (.cons .stuck .nil))))⟩
noncomputable def f_powers_product:Fn:=⟨[3,4],(.cons (.ret (.prim .tuple (.cons (.lcomp (.bin .add (.var 2) (.sub (.var 4) (.var 5))) (.many [5,2]) .enum (.var 3) .no) .nil))) .nil)⟩
noncomputable def f_powers_divide:Fn:=⟨[3,4],(.cons (.for (.many [5,2]) .enum (.var 3) (.cons (.ite (.cmp .gt (.var 2) (.sub (.var 4) (.var 5))) (.cons (.ret (.bool false)) .nil) .nil) .nil)) (.cons (.ret (.bool true)) .nil))⟩
noncomputable def f_powers_quotient:Fn:=⟨[3,4],(.cons (.ret (.prim .tuple (.cons (.lcomp (.bin .sub (.var 2) (.sub (.var 4) (.var 5))) (.many [5,2]) .enum (.var 3) .no) .nil))) .nil)⟩
noncomputable def f_powers_join:Fn:=⟨[3,4],(.cons (.ret (.prim .tuple (.cons (.lcomp (.prim .max (.cons (.var 2) (.cons (.sub (.var 4) (.var 5)) .nil))) (.many [5,2]) .enum (.var 3) .no) .nil))) .nil)⟩
noncomputable def f_powers_meet:Fn:=⟨[3,4],(.cons (.ret (.prim .tuple (.cons (.lcomp (.prim .min (.cons (.var 2) (.cons (.sub (.var 4) (.var 5)) .nil))) (.many [5,2]) .enum (.var 3) .no) .nil))) .nil)⟩
noncomputable def f_are_apart:Fn:=⟨[3,4],(.cons (.ret (.cmp .eq (.prim .sum (.cons (.call 5 (.cons (.var 3) (.cons (.var 4) .nil))) .nil)) (.int 0))) .nil)⟩
noncomputable def f_gcd:Fn:=⟨[3,4],(.cons (.asgT [3,4] (.tup (.cons (.prim .abs (.cons (.var 3) .nil)) (.cons (.prim .abs (.cons (.var 4) .nil)) .nil)))) (.cons (.loop (.cmp .ne (.var 4) (.int 0)) (.cons (.asgT [3,4] (.tup (.cons (.var 4) (.cons (.bin .mod (.var 3) (.var 4)) .nil)))) .nil)) (.cons (.ret (.var 3)) .nil)))⟩
noncomputable def f_bits_of:Fn:=⟨[6],(.cons (.asg 7 (.int 0)) (.cons (.for (.one 8) .plain (.tup (.cons (.int 4096) (.cons (.int 64) (.cons (.int 1) .nil)))) (.cons (.asg 9 (.bin .pow (.int 2) (.var 8))) (.cons (.loop (.cmp .ge (.var 6) (.var 9)) (.cons (.asgT [6,7] (.tup (.cons (.bin .fdiv (.var 6) (.var 9)) (.cons (.bin .add (.var 7) (.var 8)) .nil)))) .nil)) .nil))) (.cons (.ret (.bin .add (.var 7) (.var 6))) .nil)))⟩
noncomputable def f_rat:Fn:=⟨[10,11],(.cons (.ite (.cmp .eq (.var 11) (.int 0)) (.cons .stuck .nil) .nil) (.cons (.asg 12 (.ite (.cmp .gt (.var 11) (.int 0)) (.call 7 (.cons (.var 10) (.cons (.var 11) .nil))) (.bin .sub (.int 0) (.call 7 (.cons (.var 10) (.cons (.var 11) .nil)))))) (.cons (.ret (.tup (.cons (.bin .fdiv (.var 10) (.var 12)) (.cons (.bin .fdiv (.var 11) (.var 12)) .nil)))) .nil)))⟩
noncomputable def f_radd:Fn:=⟨[3,4],(.cons (.ret (.call 9 (.cons (.bin .add (.bin .mul (.sub (.var 3) (.int 0)) (.sub (.var 4) (.int 1))) (.bin .mul (.sub (.var 4) (.int 0)) (.sub (.var 3) (.int 1)))) (.cons (.bin .mul (.sub (.var 3) (.int 1)) (.sub (.var 4) (.int 1))) .nil)))) .nil)⟩
noncomputable def f_rmul:Fn:=⟨[3,4],(.cons (.ret (.call 9 (.cons (.bin .mul (.sub (.var 3) (.int 0)) (.sub (.var 4) (.int 0))) (.cons (.bin .mul (.sub (.var 3) (.int 1)) (.sub (.var 4) (.int 1))) .nil)))) .nil)⟩
noncomputable def f_rdiv:Fn:=⟨[3,4],(.cons (.ret (.call 9 (.cons (.bin .mul (.sub (.var 3) (.int 0)) (.sub (.var 4) (.int 1))) (.cons (.bin .mul (.sub (.var 3) (.int 1)) (.sub (.var 4) (.int 0))) .nil)))) .nil)⟩
noncomputable def f_rneg:Fn:=⟨[3],(.cons (.ret (.tup (.cons (.bin .sub (.int 0) (.sub (.var 3) (.int 0))) (.cons (.sub (.var 3) (.int 1)) .nil)))) .nil)⟩
noncomputable def f_rinv:Fn:=⟨[3],(.cons (.ret (.call 9 (.cons (.sub (.var 3) (.int 1)) (.cons (.sub (.var 3) (.int 0)) .nil)))) .nil)⟩
noncomputable def f_is_vast:Fn:=⟨[3],(.cons (.asg 13 (.prim .max (.cons (.prim .abs (.cons (.sub (.var 3) (.int 0)) .nil)) (.cons (.sub (.var 3) (.int 1)) .nil)))) (.cons (.ret (.and (.cons (.cmp .ge (.var 13) (.bin .pow (.int 2) (.int 64))) (.cons (.cmp .gt (.call 8 (.cons (.var 13) .nil)) (.glob 2)) .nil)))) .nil))⟩
noncomputable def f_mvadd:Fn:=⟨[3,4],(.cons (.asg 7 (.prim .dict (.cons (.var 3) .nil))) (.cons (.for (.one 1) .plain (.var 4) (.cons (.expr (.call 17 (.cons (.var 7) (.cons (.var 1) (.cons (.sub (.var 4) (.var 1)) .nil))))) .nil)) (.cons (.ret (.var 7)) .nil)))⟩
noncomputable def f_add_term:Fn:=⟨[7,1,14],(.cons (.asg 15 (.ite (.cmp .isin (.var 1) (.var 7)) (.call 10 (.cons (.sub (.var 7) (.var 1)) (.cons (.var 14) .nil))) (.var 14))) (.cons (.ite (.cmp .eq (.var 15) (.glob 0)) (.cons (.expr (.meth .pop (.var 7) (.cons (.var 1) (.cons .none .nil)))) .nil) (.cons (.asgS (.var 7) (.var 1) (.var 15)) .nil)) .nil))⟩
noncomputable def f_mvneg:Fn:=⟨[3],(.cons (.ret (.dcomp (.var 1) (.call 13 (.cons (.sub (.var 3) (.var 1)) .nil)) 1 (.var 3))) .nil)⟩
noncomputable def f_mvsub:Fn:=⟨[3,4],(.cons (.ret (.call 16 (.cons (.var 3) (.cons (.call 18 (.cons (.var 4) .nil)) .nil)))) .nil)⟩
noncomputable def f_mvscale:Fn:=⟨[3,14],(.cons (.ite (.cmp .eq (.var 14) (.glob 0)) (.cons (.ret .dict0) .nil) .nil) (.cons (.ret (.dcomp (.var 1) (.call 11 (.cons (.sub (.var 3) (.var 1)) (.cons (.var 14) .nil))) 1 (.var 3))) .nil))⟩
noncomputable def f_mvshift:Fn:=⟨[3,1,14],(.cons (.ite (.cmp .eq (.var 14) (.glob 0)) (.cons (.ret .dict0) .nil) .nil) (.cons (.ret (.dcomp (.call 1 (.cons (.var 2) (.cons (.var 1) .nil))) (.call 11 (.cons (.sub (.var 3) (.var 2)) (.cons (.var 14) .nil))) 2 (.var 3))) .nil))⟩
noncomputable def f_mvlead:Fn:=⟨[3,0],(.cons (.asgT [16,18] (.tup (.cons .none (.cons .none .nil)))) (.cons (.for (.one 1) .plain (.var 3) (.cons (.asg 17 (.call 0 (.cons (.var 0) (.cons (.var 1) .nil)))) (.cons (.ite (.or (.cons (.cmp .is (.var 16) .none) (.cons (.cmp .gt (.var 17) (.var 18)) .nil))) (.cons (.asgT [16,18] (.tup (.cons (.var 1) (.cons (.var 17) .nil)))) .nil) .nil) .nil))) (.cons (.ret (.ite (.cmp .is (.var 16) .none) .none (.tup (.cons (.var 16) (.cons (.sub (.var 3) (.var 16)) .nil))))) .nil)))⟩
noncomputable def f_mvmonic:Fn:=⟨[3,0],(.cons (.asg 19 (.call 22 (.cons (.var 3) (.cons (.var 0) .nil)))) (.cons (.ret (.ite (.cmp .is (.var 19) .none) .dict0 (.call 20 (.cons (.var 3) (.cons (.call 14 (.cons (.sub (.var 19) (.int 1)) .nil)) .nil))))) .nil))⟩
noncomputable def f_first_divisor:Fn:=⟨[1,20],(.cons (.for (.many [5,2]) .enum (.var 20) (.cons (.ite (.and (.cons (.cmp .isNot (.var 2) .none) (.cons (.call 2 (.cons (.sub (.var 2) (.int 0)) (.cons (.var 1) .nil))) .nil))) (.cons (.ret (.var 5)) .nil) .nil) .nil)) (.cons (.ret (.neg (.int 1))) .nil))⟩
noncomputable def f_mvdivide:Fn:=⟨[21,22,0],(.cons (.asg 20 (.lcomp (.call 22 (.cons (.var 2) (.cons (.var 0) .nil))) (.one 2) .plain (.var 22) .no)) (.cons (.asg 24 (.lcomp .dict0 (.one 2) .plain (.var 22) .no)) (.cons (.asgT [23,25,29] (.tup (.cons .dict0 (.cons (.prim .dict (.cons (.var 21) .nil)) (.cons (.int 0) .nil))))) (.cons (.asg 28 (.prim .max (.cons (.bin .add (.lst (.cons (.glob 3) .nil)) (.lcomp2 (.var 2) 1 .plain (.var 21) 2 .plain (.var 1))) .nil))) (.cons (.loop (.cmp .gt (.prim .len (.cons (.var 25) .nil)) (.int 0)) (.cons (.asgT [1,14] (.call 22 (.cons (.var 25) (.cons (.var 0) .nil)))) (.cons (.aug 29 (.prim .len (.cons (.var 25) .nil))) (.cons (.ite (.or (.cons (.cmp .gt (.var 29) (.glob 4)) (.cons (.call 15 (.cons (.var 14) .nil)) (.cons (.prim .any (.cons (.lcomp (.cmp .gt (.var 2) (.var 28)) (.one 2) .plain (.var 1) .no) .nil)) .nil)))) (.cons .stuck .nil) .nil) (.cons (.asg 5 (.call 24 (.cons (.var 1) (.cons (.var 20) .nil)))) (.cons (.ite (.cmp .lt (.var 5) (.int 0)) (.cons (.asgS (.var 23) (.var 1) (.var 14)) (.cons (.expr (.meth .pop (.var 25) (.cons (.var 1) .nil))) (.cons .cont .nil))) .nil) (.cons (.asgT [27,26] (.tup (.cons (.call 3 (.cons (.var 1) (.cons (.sub (.sub (.var 20) (.var 5)) (.int 0)) .nil))) (.cons (.call 12 (.cons (.var 14) (.cons (.sub (.sub (.var 20) (.var 5)) (.int 1)) .nil))) .nil)))) (.cons (.expr (.call 17 (.cons (.sub (.var 24) (.var 5)) (.cons (.var 27) (.cons (.var 26) .nil))))) (.cons (.asg 25 (.call 19 (.cons (.var 25) (.cons (.call 21 (.cons (.sub (.var 22) (.var 5)) (.cons (.var 27) (.cons (.var 26) .nil)))) .nil)))) .nil))))))))) (.cons (.ret (.tup (.cons (.var 24) (.cons (.var 23) .nil)))) .nil))))))⟩
noncomputable def f_rest_of:Fn:=⟨[21,22,0],(.cons (.ret (.sub (.call 25 (.cons (.var 21) (.cons (.var 22) (.cons (.var 0) .nil)))) (.int 1))) .nil)⟩
noncomputable def f_s_poly:Fn:=⟨[21,12,0],(.cons (.asgT [2,30] (.tup (.cons (.call 22 (.cons (.var 21) (.cons (.var 0) .nil))) (.cons (.call 22 (.cons (.var 12) (.cons (.var 0) .nil))) .nil)))) (.cons (.asg 31 (.call 4 (.cons (.sub (.var 2) (.int 0)) (.cons (.sub (.var 30) (.int 0)) .nil)))) (.cons (.asg 19 (.call 21 (.cons (.var 21) (.cons (.call 3 (.cons (.var 31) (.cons (.sub (.var 2) (.int 0)) .nil))) (.cons (.call 14 (.cons (.sub (.var 2) (.int 1)) .nil)) .nil))))) (.cons (.ret (.call 19 (.cons (.var 19) (.cons (.call 21 (.cons (.var 12) (.cons (.call 3 (.cons (.var 31) (.cons (.sub (.var 30) (.int 0)) .nil))) (.cons (.call 14 (.cons (.sub (.var 30) (.int 1)) .nil)) .nil)))) .nil)))) .nil))))⟩
noncomputable def f_is_divided:Fn:=⟨[1,20],(.cons (.ret (.cmp .ge (.call 24 (.cons (.var 1) (.cons (.lcomp (.tup (.cons (.var 2) (.cons (.glob 1) .nil))) (.one 2) .plain (.var 20) .no) .nil))) (.int 0))) .nil)⟩
noncomputable def f_pair_key:Fn:=⟨[32,20,0],(.cons (.asg 31 (.call 4 (.cons (.sub (.var 20) (.sub (.var 32) (.int 0))) (.cons (.sub (.var 20) (.sub (.var 32) (.int 1))) .nil)))) (.cons (.ret (.tup (.cons (.call 0 (.cons (.var 0) (.cons (.var 31) .nil))) (.cons (.var 32) .nil)))) .nil))⟩
noncomputable def f_is_needless:Fn:=⟨[32,33,20],(.cons (.asgT [2,30] (.var 32)) (.cons (.ite (.call 6 (.cons (.sub (.var 20) (.var 2)) (.cons (.sub (.var 20) (.var 30)) .nil))) (.cons (.ret (.bool true)) .nil) .nil) (.cons (.asg 31 (.call 4 (.cons (.sub (.var 20) (.var 2)) (.cons (.sub (.var 20) (.var 30)) .nil)))) (.cons (.for (.many [5,1]) .enum (.var 20) (.cons (.ite (.or (.cons (.cmp .isin (.var 5) (.var 32)) (.cons (.not (.call 2 (.cons (.var 1) (.cons (.var 31) .nil)))) .nil))) (.cons .cont .nil) .nil) (.cons (.ite (.and (.cons (.cmp .notIn (.tup (.cons (.prim .min (.cons (.var 2) (.cons (.var 5) .nil))) (.cons (.prim .max (.cons (.var 2) (.cons (.var 5) .nil))) .nil))) (.var 33)) (.cons (.cmp .notIn (.tup (.cons (.prim .min (.cons (.var 30) (.cons (.var 5) .nil))) (.cons (.prim .max (.cons (.var 30) (.cons (.var 5) .nil))) .nil))) (.var 33)) .nil))) (.cons (.ret (.bool true)) .nil) .nil) .nil))) (.cons (.ret (.bool false)) .nil)))))⟩
noncomputable def f_least_pair:Fn:=⟨[33,20,0],(.cons (.asgT [16,17] (.tup (.cons .none (.cons .none .nil)))) (.cons (.for (.one 32) .plain (.var 33) (.cons (.asg 34 (.call 29 (.cons (.var 32) (.cons (.var 20) (.cons (.var 0) .nil))))) (.cons (.ite (.or (.cons (.cmp .is (.var 16) .none) (.cons (.cmp .lt (.var 34) (.var 17)) .nil))) (.cons (.asgT [16,17] (.tup (.cons (.var 32) (.cons (.var 34) .nil)))) .nil) .nil) .nil))) (.cons (.ret (.var 16)) .nil)))⟩
noncomputable def f_groebner:Fn:=⟨[22,0,28],(.cons (.asg 35 (.lcomp (.call 23 (.cons (.var 2) (.cons (.var 0) .nil))) (.one 2) .plain (.var 22) (.yes (.cmp .gt (.prim .len (.cons (.var 2) .nil)) (.int 0))))) (.cons (.asg 20 (.lcomp (.sub (.call 22 (.cons (.var 2) (.cons (.var 0) .nil))) (.int 0)) (.one 2) .plain (.var 35) .no)) (.cons (.asg 33 (.lcomp2 (.tup (.cons (.var 2) (.cons (.var 30) .nil))) 30 .range (.prim .len (.cons (.var 35) .nil)) 2 .range (.var 30))) (.cons (.asg 36 (.int 0)) (.cons (.loop (.cmp .gt (.prim .len (.cons (.var 33) .nil)) (.int 0)) (.cons (.asg 32 (.call 31 (.cons (.var 33) (.cons (.var 20) (.cons (.var 0) .nil))))) (.cons (.asg 33 (.lcomp (.var 2) (.one 2) .plain (.var 33) (.yes (.cmp .ne (.var 2) (.var 32))))) (.cons (.ite (.call 30 (.cons (.var 32) (.cons (.var 33) (.cons (.var 20) .nil)))) (.cons .cont .nil) .nil) (.cons (.aug 36 (.int 1)) (.cons (.ite (.cmp .gt (.var 36) (.var 28)) (.cons .stuck .nil) .nil) (.cons (.asg 23 (.call 26 (.cons (.call 27 (.cons (.sub (.var 35) (.sub (.var 32) (.int 0))) (.cons (.sub (.var 35) (.sub (.var 32) (.int 1))) (.cons (.var 0) .nil)))) (.cons (.var 35) (.cons (.var 0) .nil))))) (.cons (.ite (.cmp .gt (.prim .len (.cons (.var 23) .nil)) (.int 0)) (.cons (.expr (.meth .extend (.var 33) (.cons (.lcomp (.tup (.cons (.var 5) (.cons (.prim .len (.cons (.var 35) .nil)) .nil))) (.one 5) .range (.prim .len (.cons (.var 35) .nil)) .no) .nil))) (.cons (.expr (.meth .append (.var 35) (.cons (.call 23 (.cons (.var 23) (.cons (.var 0) .nil))) .nil))) (.cons (.expr (.meth .append (.var 20) (.cons (.sub (.call 22 (.cons (.var 23) (.cons (.var 0) .nil))) (.int 0)) .nil))) .nil))) .nil) .nil)))))))) (.cons (.ret (.var 35)) .nil))))))⟩
noncomputable def f_minimal_basis:Fn:=⟨[35,0],(.cons (.asg 7 (.lcomp (.var 2) (.one 2) .plain (.var 35) (.yes (.cmp .gt (.prim .len (.cons (.var 2) .nil)) (.int 0))))) (.cons (.asg 20 (.lcomp (.sub (.call 22 (.cons (.var 2) (.cons (.var 0) .nil))) (.int 0)) (.one 2) .plain (.var 7) .no)) (.cons (.asg 37 (.lst .nil)) (.cons (.for (.many [5,1]) .enum (.var 20) (.cons (.asg 38 (.bin .add (.slice (.var 20) .no (.yes (.var 5))) (.lcomp (.var 2) (.one 2) .plain (.slice (.var 20) (.yes (.bin .add (.var 5) (.int 1))) .no) (.yes (.cmp .ne (.var 2) (.var 1)))))) (.cons (.ite (.not (.call 28 (.cons (.var 1) (.cons (.var 38) .nil)))) (.cons (.expr (.meth .append (.var 37) (.cons (.sub (.var 7) (.var 5)) .nil))) .nil) .nil) .nil))) (.cons (.ret (.var 37)) .nil)))))⟩
noncomputable def f_reduced_form:Fn:=⟨[35,0],(.cons (.asg 37 (.call 33 (.cons (.var 35) (.cons (.var 0) .nil)))) (.cons (.asg 39 (.lcomp (.tup (.cons (.call 0 (.cons (.var 0) (.cons (.sub (.call 22 (.cons (.var 2) (.cons (.var 0) .nil))) (.int 0)) .nil))) (.cons (.var 5) .nil))) (.many [5,2]) .enum (.var 37) .no)) (.cons (.expr (.meth .sort (.var 39) .nil)) (.cons (.asg 7 (.lst .nil)) (.cons (.for (.many [17,5]) .plain (.var 39) (.cons (.expr (.meth .append (.var 7) (.cons (.call 23 (.cons (.call 26 (.cons (.sub (.var 37) (.var 5)) (.cons (.var 7) (.cons (.var 0) .nil)))) (.cons (.var 0) .nil))) .nil))) .nil)) (.cons (.ret (.var 7)) .nil))))))⟩
noncomputable def f_reduced_basis:Fn:=⟨[22,0,28],(.cons (.ret (.call 34 (.cons (.call 32 (.cons (.var 22) (.cons (.var 0) (.cons (.var 28) .nil)))) (.cons (.var 0) .nil)))) .nil)⟩
noncomputable def f_is_member:Fn:=⟨[21,35,0],(.cons (.ret (.cmp .eq (.prim .len (.cons (.call 26 (.cons (.var 21) (.cons (.var 35) (.cons (.var 0) .nil)))) .nil)) (.int 0))) .nil)⟩
noncomputable def f_is_finite:Fn:=⟨[35,0,6],(.cons (.asg 20 (.lcomp (.sub (.call 22 (.cons (.var 2) (.cons (.var 0) .nil))) (.int 0)) (.one 2) .plain (.var 35) .no)) (.cons (.ite (.prim .any (.cons (.lcomp (.cmp .eq (.prim .sum (.cons (.var 1) .nil)) (.int 0)) (.one 1) .plain (.var 20) .no) .nil)) (.cons (.ret (.bool true)) .nil) .nil) (.cons (.for (.one 5) .range (.var 6) (.cons (.ite (.not (.prim .any (.cons (.lcomp (.and (.cons (.cmp .gt (.sub (.var 1) (.var 5)) (.int 0)) (.cons (.cmp .eq (.prim .sum (.cons (.var 1) .nil)) (.sub (.var 1) (.var 5))) .nil))) (.one 1) .plain (.var 20) .no) .nil))) (.cons (.ret (.bool false)) .nil) .nil) .nil)) (.cons (.ret (.bool true)) .nil))))⟩
noncomputable def f_standard_powers:Fn:=⟨[35,0,6],(.cons (.asg 20 (.lcomp (.sub (.call 22 (.cons (.var 2) (.cons (.var 0) .nil))) (.int 0)) (.one 2) .plain (.var 35) .no)) (.cons (.asgT [7,33,40] (.tup (.cons (.lst .nil) (.cons (.lst (.cons (.bin .mul (.tup (.cons (.int 0) .nil)) (.var 6)) .nil)) (.cons .dict0 .nil))))) (.cons (.loop (.cmp .gt (.prim .len (.cons (.var 33) .nil)) (.int 0)) (.cons (.asg 1 (.meth .pop (.var 33) .nil)) (.cons (.ite (.or (.cons (.cmp .isin (.var 1) (.var 40)) (.cons (.call 28 (.cons (.var 1) (.cons (.var 20) .nil))) .nil))) (.cons .cont .nil) .nil) (.cons (.asgS (.var 40) (.var 1) (.bool true)) (.cons (.expr (.meth .append (.var 7) (.cons (.var 1) .nil))) (.cons (.for (.one 5) .range (.var 6) (.cons (.expr (.meth .append (.var 33) (.cons (.bin .add (.bin .add (.slice (.var 1) .no (.yes (.var 5))) (.tup (.cons (.bin .add (.sub (.var 1) (.var 5)) (.int 1)) .nil))) (.slice (.var 1) (.yes (.bin .add (.var 5) (.int 1))) .no)) .nil))) .nil)) .nil)))))) (.cons (.ret (.prim .sorted (.cons (.var 7) .nil))) .nil))))⟩
noncomputable def f_law_take:Fn:=⟨[41,8],(.cons (.asgS (.var 41) (.int 1) (.bin .add (.sub (.var 41) (.int 1)) (.int 1))) (.cons (.ite (.cmp .ne (.sub (.var 41) (.int 0)) (.lst .nil)) (.cons (.ret (.bin .mod (.meth .pop (.sub (.var 41) (.int 0)) (.cons (.int 0) .nil)) (.var 8))) .nil) .nil) (.cons (.ret (.bin .mod (.bin .add (.bin .mul (.int 5) (.sub (.var 41) (.int 1))) (.bin .fdiv (.sub (.var 41) (.int 1)) (.int 3))) (.var 8))) .nil)))⟩
noncomputable def f_law_poly:Fn:=⟨[42],(.cons (.ret (.prim .dict (.cons (.lcomp (.tup (.cons (.var 1) (.cons (.tup (.cons (.var 43) (.cons (.int 1) .nil))) .nil))) (.many [1,43]) .plain (.var 42) (.yes (.cmp .ne (.var 43) (.int 0)))) .nil))) .nil)⟩
noncomputable def f_law_new:Fn:=⟨[44,45,46,47],(.cons (.ite (.cmp .eq (.var 44) (.int 0)) (.cons (.ret (.call 40 (.cons (.lst (.cons (.tup (.cons (.tup (.cons (.int 1) (.cons (.int 1) .nil))) (.cons (.int 1) .nil))) (.cons (.tup (.cons (.tup (.cons (.int 1) (.cons (.int 0) .nil))) (.cons (.bin .sub (.int 0) (.var 46)) .nil))) (.cons (.tup (.cons (.tup (.cons (.int 0) (.cons (.int 1) .nil))) (.cons (.bin .sub (.int 0) (.var 45)) .nil))) (.cons (.tup (.cons (.tup (.cons (.int 0) (.cons (.int 0) .nil))) (.cons (.bin .mul (.var 45) (.var 46)) .nil))) .nil))))) .nil))) .nil) .nil) (.cons (.ite (.cmp .eq (.var 44) (.int 1)) (.cons (.ret (.call 40 (.cons (.lst (.cons (.tup (.cons (.tup (.cons (.int 1) (.cons (.int 0) .nil))) (.cons (.int 1) .nil))) (.cons (.tup (.cons (.tup (.cons (.int 0) (.cons (.int 1) .nil))) (.cons (.var 47) .nil))) (.cons (.tup (.cons (.tup (.cons (.int 0) (.cons (.int 0) .nil))) (.cons (.bin .sub (.bin .sub (.int 0) (.var 45)) (.bin .mul (.var 47) (.var 46))) .nil))) .nil)))) .nil))) .nil) .nil) (.cons (.ret (.call 40 (.cons (.lst (.cons (.tup (.cons (.tup (.cons (.int 1) (.cons (.int 1) .nil))) (.cons (.int 1) .nil))) (.cons (.tup (.cons (.tup (.cons (.int 0) (.cons (.int 0) .nil))) (.cons (.bin .sub (.int 0) (.bin .mul (.var 45) (.var 46))) .nil))) .nil))) .nil))) .nil)))⟩
noncomputable def f_law_value:Fn:=⟨[21,45,46],(.cons (.ret (.prim .sum (.cons (.lcomp (.bin .mul (.bin .mul (.sub (.var 43) (.int 0)) (.bin .pow (.var 45) (.sub (.var 1) (.int 0)))) (.bin .pow (.var 46) (.sub (.var 1) (.int 1)))) (.many [1,43]) .items (.var 21) .no) .nil))) .nil)⟩
noncomputable def f_law_holds:Fn:=⟨[35,48,49,0],(.cons (.ite (.or (.cons (.not (.call 37 (.cons (.var 35) (.cons (.var 0) (.cons (.int 2) .nil))))) (.cons (.cmp .ne (.prim .len (.cons (.call 38 (.cons (.var 35) (.cons (.var 0) (.cons (.int 2) .nil)))) .nil)) (.prim .len (.cons (.var 49) .nil))) .nil))) (.cons (.ret (.bool false)) .nil) .nil) (.cons (.ite (.and (.cons (.cmp .eq (.var 49) (.lst .nil)) (.cons (.cmp .ne (.var 35) (.lst (.cons (.call 40 (.cons (.lst (.cons (.tup (.cons (.tup (.cons (.int 0) (.cons (.int 0) .nil))) (.cons (.int 1) .nil))) .nil)) .nil)) .nil))) .nil))) (.cons (.ret (.bool false)) .nil) .nil) (.cons (.ite (.cmp .eq (.prim .len (.cons (.var 49) .nil)) (.int 1)) (.cons (.asgT [45,46] (.sub (.var 49) (.int 0))) (.cons (.ite (.cmp .ne (.var 35) (.lst (.cons (.call 40 (.cons (.lst (.cons (.tup (.cons (.tup (.cons (.int 0) (.cons (.int 1) .nil))) (.cons (.int 1) .nil))) (.cons (.tup (.cons (.tup (.cons (.int 0) (.cons (.int 0) .nil))) (.cons (.bin .sub (.int 0) (.var 46)) .nil))) .nil))) .nil)) (.cons (.call 40 (.cons (.lst (.cons (.tup (.cons (.tup (.cons (.int 1) (.cons (.int 0) .nil))) (.cons (.int 1) .nil))) (.cons (.tup (.cons (.tup (.cons (.int 0) (.cons (.int 0) .nil))) (.cons (.bin .sub (.int 0) (.var 45)) .nil))) .nil))) .nil)) .nil)))) (.cons (.ret (.bool false)) .nil) .nil) .nil)) .nil) (.cons (.ret (.cmp .eq (.lcomp (.int 1) (.one 2) .plain (.var 48) (.yes (.not (.call 36 (.cons (.var 2) (.cons (.var 35) (.cons (.var 0) .nil))))))) (.lst .nil))) .nil))))⟩
noncomputable def f_law:Fn:=⟨[50],(.cons (.asg 41 (.lst (.cons (.lcomp (.prim .int (.cons (.var 2) .nil)) (.one 2) .plain (.slice (.var 50) .no (.yes (.int 15))) .no) (.cons (.int 0) .nil)))) (.cons (.asg 3 (.bin .sub (.call 39 (.cons (.var 41) (.cons (.int 3) .nil))) (.int 1))) (.cons (.asg 54 (.bin .add (.bin .add (.var 3) (.int 1)) (.call 39 (.cons (.var 41) (.cons (.int 2) .nil))))) (.cons (.asg 4 (.bin .sub (.call 39 (.cons (.var 41) (.cons (.int 3) .nil))) (.int 1))) (.cons (.asg 55 (.bin .add (.bin .add (.var 4) (.int 1)) (.call 39 (.cons (.var 41) (.cons (.int 2) .nil))))) (.cons (.asg 8 (.bin .add (.int 1) (.call 39 (.cons (.var 41) (.cons (.int 2) .nil))))) (.cons (.asg 0 (.sub (.tup (.cons (.str 0) (.cons (.str 1) (.cons (.str 2) .nil)))) (.call 39 (.cons (.var 41) (.cons (.int 3) .nil))))) (.cons (.asg 49 (.lcomp2 (.tup (.cons (.var 45) (.cons (.var 46) .nil))) 45 .plain (.tup (.cons (.var 3) (.cons (.var 54) .nil))) 46 .plain (.tup (.cons (.var 4) (.cons (.var 55) .nil))))) (.cons (.asg 48 (.lst (.cons (.call 40 (.cons (.lst (.cons (.tup (.cons (.tup (.cons (.int 2) (.cons (.int 0) .nil))) (.cons (.int 1) .nil))) (.cons (.tup (.cons (.tup (.cons (.int 1) (.cons (.int 0) .nil))) (.cons (.bin .sub (.bin .sub (.int 0) (.var 3)) (.var 54)) .nil))) (.cons (.tup (.cons (.tup (.cons (.int 0) (.cons (.int 0) .nil))) (.cons (.bin .mul (.var 3) (.var 54)) .nil))) .nil)))) .nil)) .nil))) (.cons (.expr (.meth .append (.var 48) (.cons (.call 40 (.cons (.lst (.cons (.tup (.cons (.tup (.cons (.int 0) (.cons (.int 2) .nil))) (.cons (.int 1) .nil))) (.cons (.tup (.cons (.tup (.cons (.int 0) (.cons (.int 1) .nil))) (.cons (.bin .sub (.bin .sub (.int 0) (.var 4)) (.var 55)) .nil))) (.cons (.tup (.cons (.tup (.cons (.int 0) (.cons (.int 0) .nil))) (.cons (.bin .mul (.var 4) (.var 55)) .nil))) .nil)))) .nil)) .nil))) (.cons (.asg 35 (.call 35 (.cons (.var 48) (.cons (.var 0) (.cons (.int 40) .nil))))) (.cons (.ite (.not (.call 43 (.cons (.var 35) (.cons (.var 48) (.cons (.var 49) (.cons (.var 0) .nil)))))) (.cons (.ret (.bool false)) .nil) .nil) (.cons (.for (.one 51) .range (.var 8) (.cons (.asg 44 (.call 39 (.cons (.var 41) (.cons (.int 3) .nil)))) (.cons (.asg 45 (.sub (.tup (.cons (.var 3) (.cons (.var 54) .nil))) (.call 39 (.cons (.var 41) (.cons (.int 2) .nil))))) (.cons (.asg 46 (.bin .sub (.call 39 (.cons (.var 41) (.cons (.int 5) .nil))) (.int 2))) (.cons (.asg 53 (.call 41 (.cons (.var 44) (.cons (.var 45) (.cons (.var 46) (.cons (.bin .sub (.call 39 (.cons (.var 41) (.cons (.int 5) .nil))) (.int 2)) .nil)))))) (.cons (.asg 23 (.lcomp (.var 2) (.one 2) .plain (.var 49) (.yes (.cmp .eq (.call 42 (.cons (.var 53) (.cons (.sub (.var 2) (.int 0)) (.cons (.sub (.var 2) (.int 1)) .nil)))) (.int 0))))) (.cons (.ite (.cmp .ne (.call 36 (.cons (.var 53) (.cons (.var 35) (.cons (.var 0) .nil)))) (.cmp .eq (.var 23) (.var 49))) (.cons (.ret (.bool false)) .nil) .nil) (.cons (.asg 52 (.call 35 (.cons (.bin .add (.var 35) (.lst (.cons (.var 53) .nil))) (.cons (.var 0) (.cons (.int 40) .nil))))) (.cons (.expr (.meth .append (.var 48) (.cons (.var 53) .nil))) (.cons (.ite (.or (.cons (.not (.call 43 (.cons (.var 52) (.cons (.var 48) (.cons (.var 23) (.cons (.var 0) .nil)))))) (.cons (.and (.cons (.cmp .eq (.var 23) (.var 49)) (.cons (.cmp .ne (.var 52) (.var 35)) .nil))) .nil))) (.cons (.ret (.bool false)) .nil) .nil) (.cons (.asgT [35,49] (.tup (.cons (.var 52) (.cons (.var 23) .nil)))) .nil))))))))))) (.cons (.asg 51 (.call 39 (.cons (.var 41) (.cons (.prim .len (.cons (.var 48) .nil)) .nil)))) (.cons (.asg 30 (.bin .add (.slice (.var 48) (.yes (.var 51)) .no) (.slice (.var 48) .no (.yes (.var 51))))) (.cons (.expr (.meth .reverse (.var 30) .nil)) (.cons (.ret (.cmp .eq (.call 35 (.cons (.var 30) (.cons (.var 0) (.cons (.int 40) .nil)))) (.var 35))) .nil)))))))))))))))))⟩
noncomputable def prog:List Fn:=[f_order_key,f_powers_product,f_powers_divide,f_powers_quotient,f_powers_join,f_powers_meet,f_are_apart,f_gcd,f_bits_of,f_rat,f_radd,f_rmul,f_rdiv,f_rneg,f_rinv,f_is_vast,f_mvadd,f_add_term,f_mvneg,f_mvsub,f_mvscale,f_mvshift,f_mvlead,f_mvmonic,f_first_divisor,f_mvdivide,f_rest_of,f_s_poly,f_is_divided,f_pair_key,f_is_needless,f_least_pair,f_groebner,f_minimal_basis,f_reduced_form,f_reduced_basis,f_is_member,f_is_finite,f_standard_powers,f_law_take,f_law_poly,f_law_new,f_law_value,f_law_holds,f_law]
noncomputable def fnames:List String:=["order_key","powers_product","powers_divide","powers_quotient","powers_join","powers_meet","are_apart","gcd","bits_of","rat","radd","rmul","rdiv","rneg","rinv","is_vast","mvadd","add_term","mvneg","mvsub","mvscale","mvshift","mvlead","mvmonic","first_divisor","mvdivide","rest_of","s_poly","is_divided","pair_key","is_needless","least_pair","groebner","minimal_basis","reduced_form","reduced_basis","is_member","is_finite","standard_powers","_law_take","_law_poly","_law_new","_law_value","_law_holds","law"]
noncomputable def vnames:List String:=["order","powers","one","a","b","at","n","found","many","step","top","bottom","g","greatest","rational","total","best","place","highest","first","leads","f","some","rest","quotients","left","factor","shift","most","work","other","joined","pair","waiting","told","basis","done","kept","others","keyed","known","box","pairs","number","form","x","y","v","lot","points","script","turn","later","more","c","d"]
end TK
namespace TK
open PySem PySem.W PyProof.Rows
open PySem.SeqAt (EqAt RcAt RcNeAt)
theorem Qt{α β:Type}{M:Model}{A:Around}{E:Value→Shared→Prop}{s:Shared}{m:Sem α}{f:α→Sem β}{Q:β→Shared→Prop}(h:wpAny M A m (fun a s'=>wpAny M A (f a) Q E s') E s):wpAny M A (m>>=f) Q E s:=wpAny_bind h
theorem Qu{α:Type}{M:Model}{A:Around}{E:Value→Shared→Prop}{s:Shared}{a:α}{Q:α→Shared→Prop}(h:Q a s):wpAny M A (pure a) Q E s:=wpAny_pure h
theorem Qv(h:Heap){o:Obj}(e:o.isFreed=false):(h.push o).get? h.objs.size=some o:=Heap.get?_push_size h e
noncomputable def nm(i:Nat):Str:=Str.ofString (vnames.getD i "")
noncomputable def fnm(i:Nat):Str:=Str.ofString (fnames.getD i "")
noncomputable def snm:Nat→Str
 |0=>Str.ofString "lex" |1=>Str.ofString "grlex" |_=>Str.ofString "grevlex"
noncomputable def gnm:Nat→Str
 |0=>Str.ofString "R0" |1=>Str.ofString "R1" |2=>Str.ofString "MOST_BITS" |3=>Str.ofString "MOST_FAR" |_=>Str.ofString "MOST_WORK"
theorem nm_inj:∀x y,x<56→y<56→nm x=nm y→x=y:=by
 have h:(List.range 56).all (fun x=>(List.range 56).all fun y=>decide (nm x=nm y→x=y))=true:=by decide+kernel
 intro x y hx hy;have h1:=Ql h x (List.mem_range.mpr hx);have h2:=Ql h1 y (List.mem_range.mpr hy);exact of_decide_eq_true h2
theorem nm_ndebug:∀x,x<56→(nm x==("__debug__" :Str))=false:=by
 have h:(List.range 56).all (fun x=>!(nm x==("__debug__" :Str)))=true:=by decide+kernel
 intro x hx;have h1:=Ql h x (List.mem_range.mpr hx);simpa using h1
theorem nm_nclassdict:∀x,x<56→(nm x==("__classdict__" :Str))=false:=by
 have h:(List.range 56).all (fun x=>!(nm x==("__classdict__" :Str)))=true:=by decide+kernel
 intro x hx;have h1:=Ql h x (List.mem_range.mpr hx);simpa using h1
noncomputable def G4(vs:Array Value)(n:Nat):Obj:={cls:=.type "tuple",dict:=none,data:=.seq vs n,slots:= #[]}
noncomputable def J1(vs:Array Value)(n:Nat):Obj:={cls:=.type "list",dict:=none,data:=.seq vs n,slots:= #[]}
mutual
inductive VR(h:Heap)(ι:List Addr):V→Value→Prop
 |none:VR h ι .none .none
 |bool (b:Bool):VR h ι (.bool b) (.bool b)
 |int (i:Int) (t:Tok):VR h ι (.int i) (.int i t)
 |str (k:Nat) (t:Tok):k<3→VR h ι (.str k) (.str (snm k) t)
 |tup {xs:List V} {a:Addr} {vs:Array Value} {n:Nat}:h.get? a=some (G4 vs n)→VsR h ι xs vs.toList→VR h ι (.tup xs) (.ref a)
 |loc {n:Nat} {a:Addr}:ι[n]?=some a→VR h ι (.loc n) (.ref a)
inductive VsR(h:Heap)(ι:List Addr):List V→List Value→Prop
 |nil:VsR h ι [] []
 |cons {x:V} {v:Value} {xs:List V} {vs:List Value}:VR h ι x v→VsR h ι xs vs→VsR h ι (x::xs) (v::vs)
end
theorem VsR.ind{h:Heap}{ι:List Addr}{P:List V→List Value→Prop}(n:P [] [])(c:∀{x:V} {v:Value} {xs:List V} {vs:List Value},VR h ι x v→VsR h ι xs vs→P xs vs→P (x::xs) (v::vs)){xs:List V}{vs:List Value}(r:VsR h ι xs vs):P xs vs:=
 VsR.rec (motive_1:=fun _ _ _=>True) (motive_2:=fun xs vs _=>P xs vs) trivial (fun _=>trivial) (fun _ _=>trivial) (fun _ _ _=>trivial) (fun _ _ _=>trivial) (fun _=>trivial) n (fun a b _ ih=>c a b ih) r
theorem VsR.length{h:Heap}{ι:List Addr}{xs:List V}{vs:List Value}(r:VsR h ι xs vs):xs.length=vs.length:=r.ind (P:=fun xs vs=>xs.length=vs.length) rfl fun _ _ ih=>congrArg Nat.succ ih
theorem VsR.append{h:Heap}{ι:List Addr}{xs:List V}{vs:List Value}{ys:List V}{us:List Value}(r:VsR h ι xs vs)(q:VsR h ι ys us):VsR h ι (xs++ys) (vs++us):=r.ind (P:=fun xs vs=>VsR h ι (xs++ys) (vs++us)) q fun a _ ih=>.cons a ih
theorem Z3{α:Type}{i:Nat}{x:α}{P:Prop}(e:([]:List α)[i]?=some x):P:=by rw[List.getElem?_nil]at e;exact nomatch e
theorem VsR.get{h:Heap}{ι:List Addr}{xs:List V}{vs:List Value}(r:VsR h ι xs vs):∀(i:Nat) (x:V),xs[i]?=some x→∃v,vs[i]?=some v∧VR h ι x v:=
 r.ind (P:=fun xs vs=>∀(i:Nat) (x:V),xs[i]?=some x→∃v,vs[i]?=some v∧VR h ι x v) (fun _ _ e=>Z3 e) fun{_ v _ _} a _ ih i=>Nat.casesOn i (fun x e=>⟨v,rfl,Option.some.inj e▸a⟩) fun i x e=>ih i x e
theorem VsR.getV{h:Heap}{ι:List Addr}{xs:List V}{vs:List Value}(r:VsR h ι xs vs):∀(i:Nat) (v:Value),vs[i]?=some v→∃x,xs[i]?=some x∧VR h ι x v:=
 r.ind (P:=fun xs vs=>∀(i:Nat) (v:Value),vs[i]?=some v→∃x,xs[i]?=some x∧VR h ι x v) (fun _ _ e=>Z3 e) fun{x _ _ _} a _ ih i=>Nat.casesOn i (fun v e=>⟨x,rfl,Option.some.inj e▸a⟩) fun i v e=>ih i v e
theorem VsR.take{h:Heap}{ι:List Addr}{xs:List V}{vs:List Value}(r:VsR h ι xs vs):∀n,VsR h ι (xs.take n) (vs.take n):=
 r.ind (P:=fun xs vs=>∀n,VsR h ι (xs.take n) (vs.take n)) (fun n=>by rw[List.take_nil,List.take_nil];exact .nil) fun a _ ih n=>Nat.casesOn n .nil fun n=>.cons a (ih n)
theorem VsR.drop{h:Heap}{ι:List Addr}{xs:List V}{vs:List Value}(r:VsR h ι xs vs):∀n,VsR h ι (xs.drop n) (vs.drop n):=
 r.ind (P:=fun xs vs=>∀n,VsR h ι (xs.drop n) (vs.drop n)) (fun n=>by rw[List.drop_nil,List.drop_nil];exact .nil) fun a b ih n=>Nat.casesOn n (.cons a b) fun n=>ih n
theorem VsR.reverse{h:Heap}{ι:List Addr}{xs:List V}{vs:List Value}(r:VsR h ι xs vs):VsR h ι xs.reverse vs.reverse:=
 r.ind (P:=fun xs vs=>VsR h ι xs.reverse vs.reverse) .nil fun a _ ih=>by rw[List.reverse_cons,List.reverse_cons];exact ih.append (.cons a .nil)
theorem VsR.set{h:Heap}{ι:List Addr}{x:V}{v:Value}(q:VR h ι x v){xs:List V}{vs:List Value}(r:VsR h ι xs vs):∀n,VsR h ι (xs.set n x) (vs.set n v):=
 r.ind (P:=fun xs vs=>∀n,VsR h ι (xs.set n x) (vs.set n v)) (fun _=>.nil) fun a b ih n=>Nat.casesOn n (.cons q b) fun n=>.cons a (ih n)
theorem pre_get{α:Type}{l l':List α}{n:Nat}{a:α}(h:l<+:l')(e:l[n]?=some a):l'[n]?=some a:=h.elim fun t h=>h▸(List.getElem?_append_left (Q6 e).1).trans e
theorem VR.mono{h h':Heap}{ι ι':List Addr}(hk:∀a vs n,h.get? a=some (G4 vs n)→h'.get? a=some (G4 vs n))(hp:ι<+:ι'){x:V}{v:Value}(r:VR h ι x v):VR h' ι' x v:=
 VR.rec (motive_1:=fun x v _=>VR h' ι' x v) (motive_2:=fun xs vs _=>VsR h' ι' xs vs) .none .bool .int .str (fun e _ ih=>.tup (hk _ _ _ e) ih) (fun e=>.loc (pre_get hp e)) .nil (fun _ _ ia ib=>.cons ia ib) r
theorem VsR.mono{h h':Heap}{ι ι':List Addr}(hk:∀a vs n,h.get? a=some (G4 vs n)→h'.get? a=some (G4 vs n))(hp:ι<+:ι'){x:List V}{v:List Value}(r:VsR h ι x v):VsR h' ι' x v:=r.ind (P:=VsR h' ι') .nil fun a _ ih=>.cons (a.mono hk hp) ih
noncomputable def VR.F(h:Heap)(ι:List Addr)(x:V)(v:Value):Prop:=match x with
 |.none=>v=.none
 |.bool b=>v=.bool b
 |.int i=>∃t,v=.int i t
 |.str k=>∃t,v=.str (snm k) t∧k<3
 |.tup xs=>∃a vs n,v=.ref a∧h.get? a=some (G4 vs n)∧VsR h ι xs vs.toList
 |.loc n=>∃a,v=.ref a∧ι[n]?=some a
theorem VR.fwd{h:Heap}{ι:List Addr}{x:V}{v:Value}(r:VR h ι x v):VR.F h ι x v:=by
 cases r with
 |none=>exact rfl
 |bool b=>exact rfl
 |int i t=>exact⟨t,rfl⟩
 |str k t hk=>exact⟨t,rfl,hk⟩
 |tup e q=>exact⟨_,_,_,rfl,e,q⟩
 |loc e=>exact⟨_,rfl,e⟩
noncomputable def VR.G(h:Heap)(ι:List Addr)(x:V)(v:Value):Prop:=match v with
 |.none=>x=.none
 |.bool b=>x=.bool b
 |.int i _=>x=.int i
 |.str s _=>∃k,x=.str k∧k<3∧s=snm k
 |.ref a=>(∃xs vs n,x=.tup xs∧h.get? a=some (G4 vs n)∧VsR h ι xs vs.toList)∨∃n,x=.loc n∧ι[n]?=some a
 |_=>False
theorem VR.bwd{h:Heap}{ι:List Addr}{x:V}{v:Value}(r:VR h ι x v):VR.G h ι x v:=by
 cases r with
 |none=>exact rfl
 |bool b=>exact rfl
 |int i t=>exact rfl
 |str k t hk=>exact⟨k,rfl,hk,rfl⟩
 |tup e q=>exact .inl ⟨_,_,_,rfl,e,q⟩
 |loc e=>exact .inr ⟨_,rfl,e⟩
noncomputable def VsR.G(h:Heap)(ι:List Addr)(xs:List V)(vs:List Value):Prop:=match vs with
 |[]=>xs=[]
 |v::vs=>∃x r,xs=x::r∧VR h ι x v∧VsR h ι r vs
theorem VsR.bwd{h:Heap}{ι:List Addr}{xs:List V}{vs:List Value}(r:VsR h ι xs vs):VsR.G h ι xs vs:=by
 cases r with
 |nil=>exact rfl
 |cons a b=>exact⟨_,_,rfl,a,b⟩
noncomputable def VsR.F(h:Heap)(ι:List Addr)(xs:List V)(vs:List Value):Prop:=match xs with
 |[]=>vs=[]
 |x::xs=>∃v r,vs=v::r∧VR h ι x v∧VsR h ι xs r
theorem VsR.fwd{h:Heap}{ι:List Addr}{xs:List V}{vs:List Value}(r:VsR h ι xs vs):VsR.F h ι xs vs:=by
 cases r with
 |nil=>exact rfl
 |cons a b=>exact⟨_,_,rfl,a,b⟩
inductive J9(h:Heap)(ι:List Addr):List (List Int×V)→List (List Int×Addr×Value)→Prop
 |nil:J9 h ι [] []
 |cons {k:List Int} {x:V} {a:Addr} {v:Value} {r:List (List Int×V)} {t:List (List Int×Addr×Value)}:VR h ι (keyV k) (.ref a)→VR h ι x v→J9 h ι r t→J9 h ι ((k,x)::r) ((k,a,v)::t)
theorem J9.mono{h h':Heap}{ι ι':List Addr}(hk:∀a vs n,h.get? a=some (G4 vs n)→h'.get? a=some (G4 vs n))(hp:ι<+:ι'){x:List (List Int×V)}{v:List (List Int×Addr×Value)}(r:J9 h ι x v):J9 h' ι' x v:=by
 induction r with
 |nil=>exact .nil
 |cons q a _ ih=>exact .cons (q.mono hk hp) (a.mono hk hp) ih
theorem VR.tup_ref{h:Heap}{ι:List Addr}{xs:List V}{v:Value}(r:VR h ι (.tup xs) v):∃a vs n,v=.ref a∧h.get? a=some (G4 vs n)∧VsR h ι xs vs.toList:=r.fwd
theorem VR.tup_inv{h:Heap}{ι:List Addr}{xs:List V}{a:Addr}(r:VR h ι (.tup xs) (.ref a)):∃vs n,h.get? a=some (G4 vs n)∧VsR h ι xs vs.toList:=z33 r.tup_ref fun b vs n e h q=>⟨vs,n,Value.ref.inj e▸h,q⟩
theorem VR.loc_ref{h:Heap}{ι:List Addr}{n:Nat}{v:Value}(r:VR h ι (.loc n) v):∃a,v=.ref a∧ι[n]?=some a:=r.fwd
theorem VR.int_inv{h:Heap}{ι:List Addr}{i:Int}{v:Value}(r:VR h ι (.int i) v):∃t,v=.int i t:=r.fwd
@[elab_as_elim] theorem VR.tupE {h:Heap} {ι:List Addr} {l:List V} {P:Value→Prop} {u:Value} (r:VR h ι (.tup l) u) (k:∀a vs n,h.get? a=some (G4 vs n)→VsR h ι l vs.toList→VR h ι (.tup l) (.ref a)→P (.ref a)):P u:=
 z33 r.tup_ref fun a vs n e h q=>e▸k a vs n h q (e▸r)
@[elab_as_elim] theorem VR.locE {h:Heap} {ι:List Addr} {m:Nat} {P:Value→Prop} {u:Value} (r:VR h ι (.loc m) u) (k:∀a,ι[m]?=some a→P (.ref a)):P u:=z12 r.loc_ref fun a e h=>e▸k a h
@[elab_as_elim] theorem VR.intE {h:Heap} {ι:List Addr} {i:Int} {P:Value→Prop} {u:Value} (r:VR h ι (.int i) u) (k:∀t,P (.int i t)):P u:=z11 r.int_inv fun t e=>e▸k t
theorem VR.bool_inv{h:Heap}{ι:List Addr}{i:Bool}{v:Value}(r:VR h ι (.bool i) v):v=.bool i:=r.fwd
theorem VR.none_inv{h:Heap}{ι:List Addr}{v:Value}(r:VR h ι .none v):v=.none:=r.fwd
theorem VR.str_inv{h:Heap}{ι:List Addr}{i:Nat}{v:Value}(r:VR h ι (.str i) v):∃t,v=.str (snm i) t∧i<3:=r.fwd
theorem Ub:∀{l:List V} {k:List Int},Je l=some k→l=k.map V.int
 |[],k,e=>by cases e;rfl
 |.int i::r,k,e=>by
  refine z12 (Qo e) fun k' e' h=>h▸ ?_;rw[Ub e'];rfl
 |.none::_,_,e|.bool _::_,_,e|.str _::_,_,e|.tup _::_,_,e|.loc _::_,_,e=>nomatch e
theorem itemsAre_of{prog:Program}{w:World}{h:Heap}{ι:List Addr}{k:List Int}{vs:List Value}(r:VsR h ι (k.map V.int) vs):PySem.ItemsAre (intKind prog w) k vs:=by
 induction k generalizing vs with
 |nil=>exact(show vs=[]from r.fwd)▸ .nil
 |cons i k ih=>exact z23 r.fwd fun v t e a b=>e▸z11 a.int_inv fun t e'=>e'▸ .cons (beq_self_eq_true i) (ih b)
theorem VR.isKey{prog:Program}{w:World}{h:Heap}{ι:List Addr}{k:List Int}{a:Addr}(r:VR h ι (keyV k) (.ref a)):IsTupleKey (intKind prog w) h k a:=by
 refine z22 (VR.tup_inv r) fun vs n e q=>?_;exact⟨_,vs,n,e,rfl,rfl,itemsAre_of q⟩
theorem J9.keys{prog:Program}{w:World}{h:Heap}{ι:List Addr}{x:List (List Int×V)}{t:List (List Int×Addr×Value)}(r:J9 h ι x t):∀y∈t,IsTupleKey (intKind prog w) h y.1 y.2.1:=by
 induction r with
 |nil=>intro y hy;cases hy
 |cons q a _ ih=>
  intro y hy;rcases Q5 hy with rfl|hy
  ·exact q.isKey
  ·exact ih y hy
theorem J9.map_fst{h:Heap}{ι:List Addr}{x:List (List Int×V)}{t:List (List Int×Addr×Value)}(r:J9 h ι x t):x.map (·.1)=t.map (·.1):=by
 induction r with
 |nil=>rfl
 |cons q a _ ih=>simp[ih]
theorem J9.length{h:Heap}{ι:List Addr}{x:List (List Int×V)}{t:List (List Int×Addr×Value)}(r:J9 h ι x t):x.length=t.length:=by
 induction r with
 |nil=>rfl
 |cons q a _ ih=>simp[ih]
section
variable(prog:Program)(w:World)
abbrev KK:HeapKind prog w (List Int):=tupleKind (intKind prog w)
noncomputable def ObR(h:Heap)(ι:List Addr)(a:Addr):Ob→Prop
 |.list xs=>∃vs n,h.get? a=some (J1 vs n)∧VsR h ι xs vs.toList
 |.ro xs=>∃vs n,h.get? a=some (J1 vs n)∧VsR h ι xs vs.toList
 |.dict es=>∃Qy,h.DictOfH (KK prog w) a Qy∧J9 h ι es Qy
 |.rod es=>(a==sysModules)=false∧∃Qy,h.DictOfH (KK prog w) a Qy∧J9 h ι es Qy
structure Bas where
 get?:Addr→Option Obj
noncomputable def Ob.isRo:Ob→Bool
 |.ro _=>true
 |.rod _=>true
 |_=>false
structure Rel(B:Bas)(σ:Sto)(ι:List Addr)(h:Heap):Prop where
 len:ι.length=σ.length
 nodup:ι.Nodup
 base:∀a o,B.get? a=some o→h.get? a=some o
 obs:∀(n:Nat) (o:Ob) (a:Addr),σ[n]?=some o→ι[n]?=some a→ObR prog w h ι a o
 new:∀(n:Nat) (o:Ob) (a:Addr),σ[n]?=some o→ι[n]?=some a→o.isRo=false→B.get? a=none
variable{prog w}
theorem Yt{vs us:Array Value}{n k:Nat}:J1 vs n≠G4 us k:=by
 intro e;injection e with e1;exact absurd e1 (by decide)
noncomputable def Nt(h:Heap)(a:Addr):Prop:=∃o,h.get? a=some o∧∀vs n,o≠G4 vs n
theorem Nt.ne{h:Heap}{a:Addr}(x:Nt h a){vs:Array Value}{n:Nat}(e:h.get? a=some (G4 vs n)):False:=z12 x fun _ e' hn=>hn _ _ (Option.some.inj (e'.symm.trans e))
theorem Nt.live{h:Heap}{a:Addr}(x:Nt h a):∃o,h.get? a=some o:=z12 x fun o e _=>⟨o,e⟩
theorem data_nt{o:Obj}{d:Data}(hd:o.data=d)(hn:∀vs n,d≠.seq vs n):∀vs n,o≠G4 vs n:=fun vs n e=>hn vs n (hd.symm.trans (congrArg Obj.data e))
theorem nt_dict{h:Heap}{a:Addr}{Qy:List (List Int×Addr×Value)}(d:h.DictOfH (KK prog w) a Qy):Nt h a:=z33 d fun o _ _ e _ hd=>⟨o,e,data_nt hd.1 fun _ _ e=>nomatch e⟩
theorem ObR.nt{h:Heap}{ι:List Addr}{a:Addr}{o:Ob}(r:ObR prog w h ι a o):Nt h a:=by
 cases o with
 |list _|ro _=>exact z22 r fun _ _ e _=>⟨_,e,fun _ _=>Yt⟩
 |dict _=>exact z12 r fun _ d _=>nt_dict d
 |rod _=>exact z12 r.2 fun _ d _=>nt_dict d
theorem Rel.nt{B:Bas}{σ:Sto}{ι:List Addr}{h:Heap}(R:Rel prog w B σ ι h){a:Addr}(ha:a∈ι):Nt h a:=
 z11 (Qn ha) fun n hn=>(R.obs n _ a (Qe (R.len▸(Q6 hn).1)) hn).nt
theorem Rel.live{B:Bas}{σ:Sto}{ι:List Addr}{h:Heap}(R:Rel prog w B σ ι h){a:Addr}(ha:a∈ι):∃o,h.get? a=some o:=(R.nt ha).live
theorem Rel.tup_out{B:Bas}{σ:Sto}{ι:List Addr}{h:Heap}(R:Rel prog w B σ ι h){a:Addr}{vs:Array Value}{n:Nat}(e:h.get? a=some (G4 vs n)):a∉ι:=fun ha=>(R.nt ha).ne e
theorem onone{α:Type}{x:Option α}(h:∀a,x=some a→False):x=none:=by
 cases x with
 |none=>rfl
 |some a=>exact(h a rfl).elim
theorem J0{α:Type}{x:Option α}{a:α}{P:Prop}(h:x=none)(e:x=some a):P:=nomatch h.symm.trans e
theorem Rel.noB{B:Bas}{σ:Sto}{ι:List Addr}{h:Heap}(R:Rel prog w B σ ι h){a:Addr}(ha:h.get? a=none):B.get? a=none:=onone fun o e=>J0 ha (R.base a o e)
structure Gs(own:Addr→Prop)(B:Bas)(ι:List Addr)(s:Shared)(σ':Sto)(ι':List Addr)(s':Shared):Prop where
 same:∃h tk,s'={s with heap:=h,toks:=tk}
 pre:ι<+:ι'
 fresh:∀a∈ι',a∈ι∨s.heap.get? a=none
 live:∀a o,s.heap.get? a=some o→∃o',s'.heap.get? a=some o'
 keep:∀a o,s.heap.get? a=some o→a∉ι→¬own a→s'.heap.get? a=some o
 rel:Rel prog w B σ' ι' s'.heap
abbrev Ext(B:Bas)(ι:List Addr)(s:Shared)(σ':Sto)(ι':List Addr)(s':Shared):Prop:=Gs (prog:=prog) (w:=w) (fun _=>False) B ι s σ' ι' s'
theorem Gs.trans{own:Addr→Prop}{B:Bas}{ι ι₁ ι₂:List Addr}{s s₁ s₂:Shared}{σ₁ σ₂:Sto}(x:Gs (prog:=prog) (w:=w) own B ι s σ₁ ι₁ s₁)(y:Gs (prog:=prog) (w:=w) own B ι₁ s₁ σ₂ ι₂ s₂):
 Gs (prog:=prog) (w:=w) own B ι s σ₂ ι₂ s₂ where
 same:=z21 x.same fun _ _ e=>z21 y.same fun h2 t2 e2=>⟨h2,t2,e2.trans (e▸rfl)⟩
 pre:=x.pre.trans y.pre
 fresh:=fun a ha=>(y.fresh a ha).elim (fun h=>x.fresh a h) fun h=>.inr (onone fun o e=>z11 (x.live a o e) fun _ e'=>J0 h e')
 live:=fun a o e=>z11 (x.live a o e) fun o' e'=>y.live a o' e'
 keep:=fun a o e hn ho=>y.keep a o (x.keep a o e hn ho) (fun h=>(x.fresh a h).elim hn fun h'=>J0 h' e) ho
 rel:=y.rel
theorem Gs.forget{own own':Addr→Prop}{B:Bas}{ι ι₁:List Addr}{s s₁:Shared}{σ₁:Sto}(x:Gs (prog:=prog) (w:=w) own B ι s σ₁ ι₁ s₁)(h:∀a o,own a→s.heap.get? a=some o→own' a):
 Gs (prog:=prog) (w:=w) own' B ι s σ₁ ι₁ s₁ where
 same:=x.same
 pre:=x.pre
 fresh:=x.fresh
 live:=x.live
 keep:=fun a o e hn ho=>x.keep a o e hn fun h'=>ho (h a o h' e)
 rel:=x.rel
theorem Gs.weak{own:Addr→Prop}{B:Bas}{ι ι₁:List Addr}{s s₁:Shared}{σ₁:Sto}(x:Ext (prog:=prog) (w:=w) B ι s σ₁ ι₁ s₁):Gs (prog:=prog) (w:=w) own B ι s σ₁ ι₁ s₁:=x.forget fun _ _ h=>h.elim
theorem Gs.refl{own:Addr→Prop}{B:Bas}{ι:List Addr}{s:Shared}{σ:Sto}(R:Rel prog w B σ ι s.heap):Gs (prog:=prog) (w:=w) own B ι s σ ι s where
 same:=⟨_,_,rfl⟩
 pre:=Q3 _
 fresh:=fun _ ha=>.inl ha
 live:=fun a o e=>⟨o,e⟩
 keep:=fun _ _ e _ _=>e
 rel:=R
theorem Gs.tok{own:Addr→Prop}{B:Bas}{ι:List Addr}{s:Shared}{σ:Sto}(R:Rel prog w B σ ι s.heap)(t:Nat):Gs (prog:=prog) (w:=w) own B ι s σ ι {s with toks:=t}where
 same:=⟨_,_,rfl⟩
 pre:=Q3 _
 fresh:=fun _ ha=>.inl ha
 live:=fun a o e=>⟨o,e⟩
 keep:=fun _ _ e _ _=>e
 rel:=R
theorem Gs.tups{own:Addr→Prop}{B:Bas}{ι ι':List Addr}{s s':Shared}{σ σ':Sto}(R:Rel prog w B σ ι s.heap)(ho:∀a vs n,s.heap.get? a=some (G4 vs n)→¬own a)(x:Gs (prog:=prog) (w:=w) own B ι s σ' ι' s'):
 ∀a vs n,s.heap.get? a=some (G4 vs n)→s'.heap.get? a=some (G4 vs n):=fun a _ _ e=>x.keep a _ e (R.tup_out e) (ho a _ _ e)
theorem VR.ext{B:Bas}{ι ι':List Addr}{s s':Shared}{σ σ':Sto}{v:V}{u:Value}(r:VR s.heap ι v u)(R:Rel prog w B σ ι s.heap)(x:Ext (prog:=prog) (w:=w) B ι s σ' ι' s'):VR s'.heap ι' v u:=
 r.mono (x.tups R fun _ _ _ _=>id) x.pre
theorem VsR.ext{B:Bas}{ι ι':List Addr}{s s':Shared}{σ σ':Sto}{v:List V}{u:List Value}(r:VsR s.heap ι v u)(R:Rel prog w B σ ι s.heap)(x:Ext (prog:=prog) (w:=w) B ι s σ' ι' s'):VsR s'.heap ι' v u:=
 r.mono (x.tups R fun _ _ _ _=>id) x.pre
theorem Up{h h':Heap}{a:Addr}{Qy:List (List Int×Addr×Value)}(d:h.DictOfH (KK prog w) a Qy)(ha:∀o,h.get? a=some o→h'.get? a=some o)(hk:∀y∈Qy,IsTupleKey (intKind prog w) h' y.1 y.2.1):h'.DictOfH (KK prog w) a Qy:=
 z33 d fun o es ep e hx r=>⟨o,es,ep,ha o e,hx,r.1,r.2.1,hk,r.2.2.2⟩
theorem ObR.mono{h h':Heap}{ι ι':List Addr}{a:Addr}{o:Ob}(r:ObR prog w h ι a o)(ha:∀o,h.get? a=some o→h'.get? a=some o)(hk:∀a vs n,h.get? a=some (G4 vs n)→h'.get? a=some (G4 vs n))
 (hp:ι<+:ι'):ObR prog w h' ι' a o:=by
 cases o with
 |list _|ro _=>exact z22 r fun vs k e q=>⟨vs,k,ha _ e,q.mono hk hp⟩
 |dict _=>exact z12 r fun Qy d q=>⟨Qy,Up d ha (q.mono hk hp).keys,q.mono hk hp⟩
 |rod _=>exact z12 r.2 fun Qy d q=>⟨r.1,Qy,Up d ha (q.mono hk hp).keys,q.mono hk hp⟩
theorem U3(h:Heap):h.get? h.objs.size=none:=onone fun _ e=>Nat.lt_irrefl _ (Heap.lt_size e)
theorem snoc2{α β:Type}{l:List α}{l':List β}{a x:α}{b y:β}{n:Nat}{P:Prop}(hl:l'.length=l.length)(e:(l++[a])[n]?=some x)(e':(l'++[b])[n]?=some y)(h1:l[n]?=some x→l'[n]?=some y→P)(h2:a=x→b=y→P):P:=
 (Ut e).elim (fun e=>(Ut e').elim (fun e'=>h1 e e') fun h=>absurd (Yc e) (by rw[h.1,hl];exact Nat.lt_irrefl _)) fun h=>(Ut e').elim (fun e'=>absurd (Yc e') (by rw[h.1,hl];exact Nat.lt_irrefl _)) fun h'=>h2 h.2 h'.2
theorem set_case{α:Type}{l:List α}{n k:Nat}{a x:α}(e:(l.set n a)[k]?=some x):(k=n∧a=x)∨(k≠n∧l[k]?=some x):=by
 by_cases h:n=k
 ·subst h;have hl:=Yc e;rw[List.length_set]at hl;exact .inl ⟨rfl,Option.some.inj ((List.getElem?_set_self hl).symm.trans e)⟩
 ·exact .inr ⟨Ne.symm h,(List.getElem?_set_ne h).symm.trans e⟩
theorem Rel.adopt{B:Bas}{σ:Sto}{ι:List Addr}{h h':Heap}(R:Rel prog w B σ ι h){a:Addr}{o:Ob}(ha:a∉ι)(hB:B.get? a=none)(hk:∀b o,h.get? b=some o→h'.get? b=some o)
 (ho:ObR prog w h' (ι++[a]) a o):Rel prog w B (σ++[o]) (ι++[a]) h' where
 len:=by rw[Q8,Q8,R.len];rfl
 nodup:=List.nodup_append.mpr ⟨R.nodup,List.pairwise_singleton ..,fun x hx y hy e=>ha (Q2 hy▸e▸hx)⟩
 base:=fun b o e=>hk b o (R.base b o e)
 obs:=fun n o' b e ea=>snoc2 R.len e ea (fun e ea=>(R.obs n o' b e ea).mono (fun o=>hk b o) (fun c _ _=>hk c _) ⟨[a],rfl⟩) fun h h'=>h▸h'▸ho
 new:=fun n o' b e ea hr=>snoc2 R.len e ea (fun e ea=>R.new n o' b e ea hr) fun _ h=>h▸hB
theorem Rel.push{B:Bas}{σ:Sto}{ι:List Addr}{h h':Heap}(R:Rel prog w B σ ι h){a:Addr}{o:Ob}(ha:h.get? a=none)(hk:∀b o,h.get? b=some o→h'.get? b=some o)
 (ho:ObR prog w h' (ι++[a]) a o):Rel prog w B (σ++[o]) (ι++[a]) h':=R.adopt (fun hx=>z11 (R.live hx) fun _ e=>J0 ha e) (R.noB ha) hk ho
theorem Ext.push{B:Bas}{σ:Sto}{ι:List Addr}{s:Shared}{h':Heap}{t:Nat}(R:Rel prog w B σ ι s.heap){a:Addr}{o:Ob}(ha:s.heap.get? a=none)(hk:∀b o,s.heap.get? b=some o→h'.get? b=some o)
 (ho:ObR prog w h' (ι++[a]) a o):Ext (prog:=prog) (w:=w) B ι s (σ++[o]) (ι++[a]) {s with heap:=h',toks:=t}where
 same:=⟨_,_,rfl⟩
 pre:=⟨[a],rfl⟩
 fresh:=fun b hb=>(Qh hb).imp id fun h=>by simp at h;subst h;exact ha
 live:=fun b o e=>⟨o,hk b o e⟩
 keep:=fun b o e _ _=>hk b o e
 rel:=R.push ha hk ho
theorem Ext.grown{B:Bas}{σ:Sto}{ι:List Addr}{s:Shared}{h':Heap}{t:Nat}(R:Rel prog w B σ ι s.heap)(hk:∀b o,s.heap.get? b=some o→h'.get? b=some o):Ext (prog:=prog) (w:=w) B ι s σ ι {s with heap:=h',toks:=t}where
 same:=⟨_,_,rfl⟩
 pre:=Q3 _
 fresh:=fun b hb=>.inl hb
 live:=fun b o e=>⟨o,hk b o e⟩
 keep:=fun b o e _ _=>hk b o e
 rel:={len:=R.len,nodup:=R.nodup,base:=fun b o e=>hk b o (R.base b o e),obs:=fun n o a e ea=>(R.obs n o a e ea).mono (fun o e=>hk _ _ e) (fun a vs n e=>hk _ _ e) (Q3 _),new:=R.new}
theorem Ext.upd{B:Bas}{σ:Sto}{ι:List Addr}{s:Shared}{h':Heap}{t:Nat}(R:Rel prog w B σ ι s.heap){n:Nat}{a:Addr}{o o':Ob}(e:σ[n]?=some o)(ea:ι[n]?=some a)(hr:o.isRo=false)(hr':o'.isRo=false)
 (hs:Heap.SameBut a s.heap h') (ho:ObR prog w h' ι a o'):Ext (prog:=prog) (w:=w) B ι s (σ.set n o') ι {s with heap:=h',toks:=t}:=by
 have hlow:=R.new n o a e ea hr;have hne:∀{b},b∉ι→b≠a:=fun hb h=>hb (h▸Qf ea);have one:∀{k b},k≠n→ι[k]?=some b→b≠a:=fun hk eb h=>hk ((List.getElem?_inj (Yc eb) R.nodup).mp (eb.trans (h▸ea.symm)));exact
  {
   same:=⟨_,_,rfl⟩,pre:=Q3 _,fresh:=fun b hb=>.inl hb
   live:=fun b o eb=>(Decidable.em (b=a)).elim (fun h=>h▸ho.nt.live) fun h=>⟨o,(hs.2 b h).trans eb⟩
   keep:=fun b o eb hb _=>(hs.2 b (hne hb)).trans eb
   rel:=
    {
     len:=by rw[List.length_set];exact R.len
     nodup:=R.nodup
     base:=fun b o eb=>(hs.2 b fun h=>J0 (h▸hlow) eb).trans (R.base b o eb)
     obs:=fun k o2 b ek eb=>(set_case ek).elim (fun h=>Option.some.inj (ea.symm.trans (h.1▸eb))▸h.2▸ho) fun h=>(R.obs k o2 b h.2 eb).mono (fun o e=>(hs.2 b (one h.1 eb)).trans e) (fun c vs m ec=>(hs.2 c (hne (R.tup_out ec))).trans ec) (Q3 _)
     new:=fun k o2 b ek eb hr2=>(set_case ek).elim (fun h=>Option.some.inj (ea.symm.trans (h.1▸eb))▸hlow) fun h=>R.new k o2 b h.2 eb hr2}}
structure EnvOk(env:Env):Prop where
 kind:env.scope.kind=.function
 glob:env.globals=mainGlobals
 blt:env.builtins=builtinsNs
noncomputable def own(env:Env)(a:Addr):Prop:=a=env.locals∨∃n,(n,a)∈env.cells
structure FrR(B:Bas)(ι:List Addr)(h:Heap)(ρ:Fr)(env:Env):Prop where
 ok:EnvOk env
 rng:∀x v,ρ x=some v→x<56
 ns:∃m,h.Ns env.locals m∧∀x v,ρ x=some v→env.kindOf (nm x)=some .local→∃u,m (nm x)=some u∧VR h ι v u
 cl:∀x v,ρ x=some v→(env.kindOf (nm x)=some .cell∨env.kindOf (nm x)=some .free)→∃c u,env.cells.lookup (nm x)=some c∧h.IsCell c (some u)∧VR h ι v u
 cells:∀n c,(n,c)∈env.cells→(∃v,h.IsCell c v)∧c∉ι∧c≠env.locals∧B.get? c=none
 apart:env.cells.Pairwise fun x y=>x.2≠y.2
 locOut:env.locals∉ι
 locNew:B.get? env.locals=none
theorem FrR.ownNt{B:Bas}{ι:List Addr}{h:Heap}{ρ:Fr}{env:Env}(F:FrR B ι h ρ env){a:Addr}(ha:own env a):Nt h a:=
 ha.elim (fun e=>e▸z12 F.ns fun _ hn _=>z33 hn fun o _ _ e hd _=>⟨o,e,data_nt hd fun _ _ e=>nomatch e⟩) fun hk=>z11 hk fun k hk=>z11 (F.cells k a hk).1 fun _ hv=>z12 hv fun o e hd=>⟨o,e,data_nt hd fun _ _ e=>nomatch e⟩
theorem FrR.tups{B:Bas}{ι:List Addr}{h:Heap}{ρ:Fr}{env:Env}(F:FrR B ι h ρ env):∀a vs n,h.get? a=some (G4 vs n)→¬own env a:=fun _ _ _ e ha=>(F.ownNt ha).ne e
theorem FrR.ownLive{B:Bas}{ι:List Addr}{h:Heap}{ρ:Fr}{env:Env}(F:FrR B ι h ρ env):∀a,own env a→∃o,h.get? a=some o:=fun _ ha=>(F.ownNt ha).live
theorem FrR.ownOut{B:Bas}{ι:List Addr}{h:Heap}{ρ:Fr}{env:Env}(F:FrR B ι h ρ env):∀a,own env a→a∉ι:=fun a ha=>ha.elim (fun e=>e▸F.locOut) fun hk=>z11 hk fun k hk=>(F.cells k a hk).2.1
theorem FrR.ownNew{B:Bas}{ι:List Addr}{h:Heap}{ρ:Fr}{env:Env}(F:FrR B ι h ρ env):∀a,own env a→B.get? a=none:=fun a ha=>ha.elim (fun e=>e▸F.locNew) fun hk=>z11 hk fun k hk=>(F.cells k a hk).2.2.2
theorem FrR.keeps{B:Bas}{ι ι':List Addr}{h h':Heap}{ρ:Fr}{env:Env}(F:FrR B ι h ρ env)(hk:∀a,own env a→∀o,h.get? a=some o→h'.get? a=some o)(hkt:∀a vs n,h.get? a=some (G4 vs n)→h'.get? a=some (G4 vs n))(hp:ι<+:ι')(hout:∀a,own env a→a∉ι'):FrR B ι' h' ρ env:=
 have hcell:∀{n c},(n,c)∈env.cells→∀{v},h.IsCell c v→h'.IsCell c v:=fun{n c} hm {v} hv=>z12 hv fun o e hd=>⟨o,hk c (.inr ⟨n,hm⟩) o e,hd⟩
 {
  ok:=F.ok,rng:=F.rng
  ns:=z12 F.ns fun m hn q=>⟨m,z33 hn fun o es ep e hd r=>⟨o,es,ep,hk _ (.inl rfl) o e,hd,r⟩,fun y v hy hl=>z12 (q y v hy hl) fun u e1 e2=>⟨u,e1,e2.mono hkt hp⟩⟩
  cl:=fun y v hy hl=>z23 (F.cl y v hy hl) fun c u e1 e2 e3=>⟨c,u,e1,hcell (mem_of_lookup e1) e2,e3.mono hkt hp⟩
  cells:=fun n c hm=>⟨z11 (F.cells n c hm).1 fun v hv=>⟨v,hcell hm hv⟩,hout c (.inr ⟨n,hm⟩),(F.cells n c hm).2.2⟩
  apart:=F.apart,locOut:=hout _ (.inl rfl),locNew:=F.locNew}
theorem FrR.ext{o':Addr→Prop}{B:Bas}{ι ι':List Addr}{s s':Shared}{σ σ':Sto}{ρ:Fr}{env:Env}(F:FrR B ι s.heap ρ env)(R:Rel prog w B σ ι s.heap)(x:Gs (prog:=prog) (w:=w) o' B ι s σ' ι' s')
 (hdis:∀a,own env a→¬o' a) (hto:∀a vs n,s.heap.get? a=some (G4 vs n)→¬o' a):FrR B ι' s'.heap ρ env:=
 F.keeps (fun a ha o e=>x.keep a o e (F.ownOut a ha) (hdis a ha)) (x.tups R hto) x.pre fun a ha h=>(x.fresh a h).elim (F.ownOut a ha) fun h'=>z11 (F.ownLive a ha) fun _ e=>J0 h' e
theorem FrR.ext'{B:Bas}{ι ι':List Addr}{s s':Shared}{σ σ':Sto}{ρ:Fr}{env:Env}(F:FrR B ι s.heap ρ env)(R:Rel prog w B σ ι s.heap)(x:Ext (prog:=prog) (w:=w) B ι s σ' ι' s'):FrR B ι' s'.heap ρ env:=
 F.ext R x (fun _ _=>id) fun _ _ _ _=>id
theorem FrR.load{M:Model}{A:Around}{E:Value→Shared→Prop}{B:Bas}{ι:List Addr}{s:Shared}{ρ:Fr}{env:Env}{Q:Value→Shared→Prop}(F:FrR B ι s.heap ρ env){x:Nat}{v:V}(e:ρ x=some v)
 (hk:env.kindOf (nm x)=some .local∨env.kindOf (nm x)=some .cell∨env.kindOf (nm x)=some .free) (h:∀u,VR s.heap ι v u→Q u s):wpAny M A (loadName env (nm x)) Q E s:=by
 rcases hk with hk|hk|hk
 ·refine z12 F.ns fun m hn q=>?_;refine z12 (q x v e hk) fun u e1 e2=>?_;exact wpAny_loadName_local F.ok.kind hk hn e1 (h u e2)
 ·refine z23 (F.cl x v e (.inl hk)) fun c u e1 e2 e3=>?_;exact wpAny_loadName_cell F.ok.kind hk e1 e2 (h u e3)
 ·refine z23 (F.cl x v e (.inr hk)) fun c u e1 e2 e3=>?_;exact wpAny_loadName_free F.ok.kind hk e1 e2 (h u e3) (nm_nclassdict x (F.rng x v e))
noncomputable def Y9(env:Env)(x:Nat):Prop:=x<56∧(env.kindOf (nm x)=some .local∨(env.kindOf (nm x)=some .cell∧(env.cells.lookup (nm x)).isSome=true))
theorem Rel.sameBut{B:Bas}{σ:Sto}{ι:List Addr}{h h':Heap}(R:Rel prog w B σ ι h){a:Addr}(ha:a∉ι)(hB:B.get? a=none)(hnt:∀vs n,h.get? a≠some (G4 vs n))(hs:Heap.SameBut a h h'):Rel prog w B σ ι h' where
 len:=R.len
 nodup:=R.nodup
 base:=fun b o e=>(hs.2 b fun h=>by rw[h,hB]at e;cases e).trans (R.base b o e)
 obs:=fun n o b e ea=>(R.obs n o b e ea).mono (fun o e=>(hs.2 b fun h=>ha (h▸Qf ea)).trans e) (fun c vs m ec=>(hs.2 c fun h=>hnt vs m (h▸ec)).trans ec) (Q3 _)
 new:=R.new
theorem FrR.touch{own':Addr→Prop}{B:Bas}{ι:List Addr}{s:Shared}{σ:Sto}{ρ:Fr}{env:Env}(F:FrR B ι s.heap ρ env)(R:Rel prog w B σ ι s.heap){a:Addr}(ha:own env a)(ha':own' a){h':Heap}{t:Nat}(hs:Heap.SameBut a s.heap h')(hl:∃o,h'.get? a=some o):
 Gs (prog:=prog) (w:=w) own' B ι s σ ι {s with heap:=h',toks:=t}∧∀c vs n,s.heap.get? c=some (G4 vs n)→h'.get? c=some (G4 vs n):=
 have hnt:∀vs n,s.heap.get? a≠some (G4 vs n):=fun _ _ e=>(F.ownNt ha).ne e
 ⟨{
  same:=⟨_,_,rfl⟩,pre:=Q3 _,fresh:=fun b hb=>.inl hb
  live:=fun b o e=>(Decidable.em (b=a)).elim (fun h=>h▸hl) fun h=>⟨o,(hs.2 b h).trans e⟩
  keep:=fun b o e _ ho=>(hs.2 b fun h=>ho (h▸ha')).trans e,rel:=R.sameBut (F.ownOut a ha) (F.ownNew a ha) hnt hs},fun c vs n ec=>(hs.2 c fun h=>hnt vs n (h▸ec)).trans ec⟩
theorem Ur{ρ:Fr}{x y:Nat}{v v':V}{P:Prop}(e:upd ρ x v y=some v')(h1:y=x→v=v'→P)(h2:y≠x→ρ y=some v'→P):P:=by
 by_cases h:y=x
 ·exact h1 h (Option.some.inj ((if_pos h).symm.trans e))
 ·exact h2 h ((if_neg h).symm.trans e)
theorem FrR.rngU{B:Bas}{ι:List Addr}{h:Heap}{ρ:Fr}{env:Env}(F:FrR B ι h ρ env){x:Nat}{v:V}(hx:x<56):∀y v',upd ρ x v y=some v'→y<56:=fun y v' e=>Ur e (fun e _=>e▸hx) fun _ e=>F.rng y v' e
theorem FrR.storeL{M:Model}{A:Around}{E:Value→Shared→Prop}{B:Bas}{ι:List Addr}{s:Shared}{σ:Sto}{ρ:Fr}{env:Env}{Q:Unit→Shared→Prop}(F:FrR B ι s.heap ρ env)(R:Rel prog w B σ ι s.heap){x:Nat}{v:V}{u:Value}
 (hc:x<56∧env.kindOf (nm x)=some .local) (hv:VR s.heap ι v u) (h:∀s',Gs (prog:=prog) (w:=w) (fun a=>a=env.locals) B ι s σ ι s'→FrR B ι s'.heap (upd ρ x v) env→Q () s'):wpAny M A (storeName env (nm x) u) Q E s:=by
 have pr:=Q3 ι;refine z12 F.ns fun m hn q=>?_;refine wpAny_storeName_local hc.2 hn (fun h' hn' hs'=>?_) (by rw[F.ok.kind];rfl);refine zA2 (F.touch R (own':=fun a=>a=env.locals) (t:=s.toks+1) (.inl rfl) rfl hs' (z33 hn' fun o _ _ e _ _=>⟨o,e⟩)) fun X ht=>h _ X ?_;exact
  {
   ok:=F.ok,rng:=F.rngU hc.1
   ns:=⟨_,hn',fun y v' hy hl=>Ur hy (fun e e'=>⟨u,if_pos (congrArg nm e),e'▸hv.mono ht pr⟩) fun hxy hy2=>z12 (q y v' hy2 hl) fun u' e1 e2=>⟨u',(if_neg fun h=>hxy (nm_inj y x (F.rngU hc.1 y v' hy) hc.1 h)).trans e1,e2.mono ht pr⟩⟩
   cl:=fun y v' hy hl=>Ur hy (fun e _=>by subst e;exact hl.elim (fun h=>nomatch hc.2.symm.trans h) fun h=>nomatch hc.2.symm.trans h) fun _ hy=>z23 (F.cl y v' hy hl) fun c u' e1 e2 e3=>⟨c,u',e1,e2.sameBut hs' (F.cells _ c (mem_of_lookup e1)).2.2.1,e3.mono ht pr⟩
   cells:=fun n c hm=>⟨z11 (F.cells n c hm).1 fun v' hv'=>⟨v',hv'.sameBut hs' (F.cells n c hm).2.2.1⟩,(F.cells n c hm).2⟩
   apart:=F.apart,locOut:=F.locOut,locNew:=F.locNew}
theorem FrR.store{M:Model}{A:Around}{E:Value→Shared→Prop}{B:Bas}{ι:List Addr}{s:Shared}{σ:Sto}{ρ:Fr}{env:Env}{Q:Unit→Shared→Prop}(F:FrR B ι s.heap ρ env)(R:Rel prog w B σ ι s.heap){x:Nat}{v:V}{u:Value}
 (hc:Y9 env x) (hv:VR s.heap ι v u) (h:∀s',Gs (prog:=prog) (w:=w) (own env) B ι s σ ι s'→FrR B ι s'.heap (upd ρ x v) env→Q () s'):wpAny M A (storeName env (nm x) u) Q E s:=by
 refine hc.2.elim (fun hk=>F.storeL R ⟨hc.1,hk⟩ hv fun s' X F'=>h s' (X.forget fun _ _ e _=>.inl e) F') fun hk'=>zA2 hk' fun hk hs=>z11 (Option.isSome_iff_exists.mp hs) fun c hcc=>?_;have pr:=Q3 ι;have hmc:=mem_of_lookup hcc;refine z11 (F.cells _ c hmc).1 fun v₀ hv₀=>wpAny_storeName_cell F.ok.kind hk hcc hv₀ fun h' hc' hs'=>?_;refine zA2 (F.touch R (own':=own env) (t:=s.toks) (.inr ⟨_,hmc⟩) (.inr ⟨_,hmc⟩) hs' (z12 hc' fun o e _=>⟨o,e⟩)) fun X ht=>h {s with heap:=h'} X ?_;exact
  {
   ok:=F.ok,rng:=F.rngU hc.1
   ns:=z12 F.ns fun m hn q=>⟨m,hn.sameBut hs' (Ne.symm (F.cells _ c hmc).2.2.1),fun y v' hy hl=>Ur hy (fun e _=>by subst e;exact nomatch hk.symm.trans hl) fun _ hy=>z12 (q y v' hy hl) fun u' e1 e2=>⟨u',e1,e2.mono ht pr⟩⟩
   cl:=fun y v' hy hl=>Ur hy (fun e e'=>⟨c,u,e▸hcc,hc',e'▸hv.mono ht pr⟩) fun hxy hy2=>z23 (F.cl y v' hy2 hl) fun c' u' e1 e2 e3=>⟨c',u',e1,e2.sameBut hs' fun h=>hxy (nm_inj y x (F.rngU hc.1 y v' hy) hc.1 (name_of_addr F.apart (mem_of_lookup e1) (h▸hmc))),e3.mono ht pr⟩
   cells:=fun n c' hm=>⟨(Decidable.em (c'=c)).elim (fun h=>⟨_,h▸hc'⟩) fun h=>z11 (F.cells n c' hm).1 fun v' hv'=>⟨v',hv'.sameBut hs' h⟩,(F.cells n c' hm).2⟩
   apart:=F.apart,locOut:=F.locOut,locNew:=F.locNew}
end
noncomputable def TupOut(h:Heap)(ι:List Addr):Prop:=∀a vs n,h.get? a=some (G4 vs n)→a∉ι
theorem all2{n:Nat}{P:Nat→Nat→Prop}[∀x y,Decidable (P x y)](h:(List.range n).all (fun x=>(List.range n).all fun y=>decide (P x y))=true){x y:Nat}(hx:x<n)(hy:y<n):P x y:=
 of_decide_eq_true (Ql (Ql h x (List.mem_range.mpr hx)) y (List.mem_range.mpr hy))
theorem snm_inj{x y:Nat}(hx:x<3)(hy:y<3):snm x=snm y→x=y:=all2 (n:=3) (P:=fun x y=>snm x=snm y→x=y) (by decide+kernel) hx hy
theorem tobj_inj{x:Option Obj}{vs us:Array Value}{n m:Nat}(e:x=some (G4 vs n))(e':x=some (G4 us m)):vs=us:=(Data.seq.inj (congrArg Obj.data (Option.some.inj (e.symm.trans e')))).1
theorem VR.uniq{h:Heap}{ι:List Addr}(hn:ι.Nodup)(ho:TupOut h ι){x y:V}{v:Value}(r:VR h ι x v)(q:VR h ι y v):x=y:=
 VR.rec (motive_1:=fun x v _=>∀y,VR h ι y v→x=y) (motive_2:=fun xs vs _=>∀ys,VsR h ι ys vs→xs=ys)
  (fun _ q=>(show _=_ from q.bwd).symm) (fun _ _ q=>(show _=_ from q.bwd).symm) (fun _ _ _ q=>(show _=_ from q.bwd).symm)
  (fun k t hk y q=>z13 q.bwd fun k' e hk' e'=>e▸congrArg V.str (snm_inj hk hk' e'))
  (fun e _ ih y q=>q.bwd.elim (fun h=>z33 h fun ys vs n e1 e2 e3=>e1▸congrArg V.tup (ih _ (tobj_inj e e2▸e3))) fun h=>z12 h fun n _ e2=>absurd (Qf e2) (ho _ _ _ e))
  (fun e y q=>q.bwd.elim (fun h=>z33 h fun ys vs n _ e2 _=>absurd (Qf e) (ho _ _ _ e2)) fun h=>z12 h fun n e1 e2=>e1▸congrArg V.loc ((List.getElem?_inj (Yc e) hn).mp (e.trans e2.symm)))
  (fun ys q=>(show ys=[]from q.bwd).symm)
  (fun _ _ ia ib ys q=>z23 q.bwd fun y t e a b=>e▸ia y a▸ib t b▸rfl) r y q
section
variable{prog:Program}{w:World}
theorem Rel.tupOut{B:Bas}{σ:Sto}{ι:List Addr}{h:Heap}(R:Rel prog w B σ ι h):TupOut h ι:=fun _ _ _ e=>R.tup_out e
theorem and2{a b:Option Bool}{r:Bool}(e:(match a,b with|some b,some c=>some (b&&c)|_,_=>none)=some r):∃p q,a=some p∧b=some q∧(p&&q)=r:=by
 cases a with
 |none=>exact nomatch e
 |some p=>cases b with
  |none=>exact nomatch e
  |some q=>exact⟨p,q,rfl,rfl,Option.some.inj e⟩
theorem eqList_refl{f:V→V→Option Bool}(hf:∀x b,f x x=some b→b=true):∀{xs:List V} {b:Bool},Y8 f xs xs=some b→true=b
 |[],b,e=>Option.some.inj e
 |x::xs,b,e=>z23 (and2 e) fun p q e1 e2 e3=>by rw[←e3,hf x p e1,←eqList_refl hf e2];rfl
theorem eqD_refl:∀(d:Nat) (σ:Sto) (x:V) (b:Bool),eqD d σ x x=some b→b=true
 |0,_,_,_,e=>nomatch e
 |d+1,σ,x,b,e=>by
  cases x with
  |none=>exact nomatch e
  |bool _|int _|str _=>exact(Option.some.inj e).symm.trans (decide_eq_true rfl)
  |tup l=>exact(eqList_refl (fun x b h=>eqD_refl d σ x b h) (xs:=l) e).symm
  |loc n=>exact(Option.some.inj ((if_pos rfl).symm.trans e)).symm
theorem beq_succ(a b:Nat):(a+1==b+1)=(a==b):=by rw[Bool.eq_iff_iff,beq_iff_eq,beq_iff_eq,Nat.add_right_cancel_iff]
theorem eqList_pairs{f:V→V→Option Bool}:∀{xs ys:List V} {b:Bool},Y8 f xs ys=some b→
 ∃e:Nat→Bool,(∀(j:Nat) (x y:V),xs[j]?=some x→ys[j]?=some y→f x y=some (e j))∧((List.range (min xs.length ys.length)).all e&&xs.length==ys.length)=b
 |[],[],b,h=>⟨fun _=>true,fun _ _ _ h1=>Z3 h1,Option.some.inj h⟩
 |[],y::ys,b,h=>⟨fun _=>true,fun _ _ _ h1=>Z3 h1,by rw[Qk,Nat.zero_min];exact Option.some.inj h⟩
 |x::xs,[],b,h=>⟨fun _=>true,fun _ _ _ _ h1=>Z3 h1,by rw[Qk,Nat.min_zero];exact Option.some.inj h⟩
 |x::xs,y::ys,b,h=>z23 (and2 h) fun p q e1 e2 e3=>z12 (eqList_pairs e2) fun e h1 h2=>⟨fun j=>Nat.casesOn j p e,fun j=>Nat.casesOn j (fun u v hu hv=>Option.some.inj hu▸Option.some.inj hv▸e1) fun j u v hu hv=>h1 j u v hu hv,by
  rw[Qa,Qa,Nat.succ_min_succ,List.range_succ_eq_map,List.all_cons,List.all_map,Bool.and_assoc,beq_succ,←e3,←h2];rfl⟩
theorem Ga{h:Heap}{a:Addr}{vs:Array Value}{n:Nat}(e:h.get? a=some (J1 vs n)):h.IsList a vs:=⟨_,e,rfl,n,rfl⟩
theorem J4{h:Heap}{a:Addr}{vs:Array Value}{n:Nat}(e:h.get? a=some (G4 vs n)):h.IsTuple a vs:=⟨_,e,rfl,n,rfl⟩
theorem range_cons{i n x:Nat}{rest:List Nat}(hr:List.range' i (n-i)=x::rest):i=x∧i<n∧List.range' (i+1) (n-(i+1))=rest:=by
 have h:n-i=n-(i+1)+1:=by
  cases h:n-i with
  |zero=>rw[h]at hr;exact nomatch hr
  |succ m=>rw[Nat.sub_add_eq,h];rfl
 rw[h,List.range'_succ]at hr;exact⟨(List.cons.inj hr).1,Nat.lt_of_sub_pos (h▸Nat.succ_pos _),(List.cons.inj hr).2⟩
theorem range_nil{i n:Nat}(hi:i≤n)(hr:List.range' i (n-i)=[]):i=n:=Nat.le_antisymm hi (Nat.le_of_sub_eq_zero (List.range'_eq_nil_iff.mp hr))
theorem get_some{α β:Type}{l:List (α×β)}{n:Nat}(h:n<l.length):∃a b,l[n]?=some (a,b):=⟨l[n].1,l[n].2,Qe h⟩
theorem samePairsH{nmx:String}{A:Around}{E:Value→Shared→Prop}{s:Shared}{K:Type}[DecidableEq K]{knd:HeapKind prog w K}{a b:Addr}{ka kb:List (K×Addr×Value)}{Q:Bool→Shared→Prop}(hu:knd.room A)
 (ha:(a==sysModules)=false) (hb:(b==sysModules)=false)
 (da:s.heap.DictOfH knd a ka) (db:s.heap.DictOfH knd b kb) (g:Nat→Bool) (r:Nat→Bool)
 (hr0:r ka.length=true)
 (hits:ka.length=kb.length→∀i k p,ka[i]?=some (k,p)→(atKey kb k=none∧r i=false)∨∃q,atKey kb k=some q∧EqAt A s p.2 q.2 (g i)∧r i=(g i&&r (i+1)))
 (h:Q (ka.length==kb.length&&r 0) s):wpAny (model prog w) A (Builtin.Dict.samePairs nmx a b) Q E s:=by
 refine cps fun qG qK=>?_;obtain⟨oa,es,ep,hoa,_,hda,hea,hia,hna⟩:=da;obtain⟨ob,es',ep',hob,_,hdb,heb,hib,hnb⟩:=db;refine qK ?_;have hla:ka.length=es.size:=(size_of_entries hea).symm;have hlb:kb.length=es'.size:=(size_of_entries heb).symm;rw[hla,hlb]at h;unfold Builtin.Dict.samePairs Builtin.Dict.showsAll;rw[if_neg (show¬(a==sysModules)=true by rw[ha];exact Bool.false_ne_true),if_neg (show¬(b==sysModules)=true by rw[hb];exact Bool.false_ne_true)];refine Qt (Qu (Qt (Qu ?_)));refine Qt (wpAny_dictEntries hoa hda ?_);dsimp only;refine Qt (wpAny_dictEntries hob hdb ?_);by_cases hsz:es.size=es'.size
 case neg=>
  rw[if_pos (by simpa using hsz)];have hbf:(es.size==es'.size)=false:=by simpa using hsz
  rw[hbf,Bool.false_and]at h;exact Qt (wpAny_rule (Qu h))
 case pos=>
  have h':Q (r 0) s:=by simpa[hsz]using h
  have hits':=hits (by rw[hla,hlb];exact hsz);rw[if_neg (by rw[hsz];exact fun h=>bne_iff_ne.mp h rfl)];refine Qt (wpAny_dictEpoch hoa hda ?_);refine Qt ?_;rw[Std.Legacy.Range.forIn_eq_forIn_range'];refine wpAny_forIn_list _
   (fun rest q s'=>∀G:List Nat→Option Bool×PUnit→Shared→Prop,(∀i,i≤es.size→r 0=r i→G (List.range' i (es.size-i)) (none,()) s)→G rest q s')
   _ ?_ ?_ _ _ (by
    intro G hG;have:=hG 0 (Nat.zero_le _) rfl;rw[show(Std.Legacy.Range.mk 0 es.size 1 (by decide)).size=es.size-0 from by rw[Std.Legacy.Range.size,Nat.add_sub_cancel,Nat.div_one]];exact this)
  ·intro x rest q s' hI;refine hI (fun l q s'=>l=x::rest→wpAny _ _ _ _ _ s') (fun i hi hpre hr=>?_) rfl;refine zA3 (range_cons hr) fun hx hlt hrest=>?_;subst hx;refine Qt (wpAny_dictEntries hoa hda ?_);refine z21 (get_some (l:=ka) (n:=i) (hla▸hlt)) fun k p hkv=>?_;rw[entry_at hea i,hkv];refine Qt (wpAny_holding (Qt (wpAny_dictFind_heap (k:=k) hu (hia _ (Qf hkv)) hob hdb heb hib hnb (fun hno=>?_) (fun j q hj=>?_))))
   ·refine(hits' i k p hkv).elim (fun h=>?_) fun h=>z11 h fun q h=>J0 (atKey_none_of_get hno) h.1;rw[hpre,h.2]at h';exact Qu (Qu (Qu h'))
   ·refine Qt (wpAny_dictEntries hob hdb ?_);rw[entry_at heb j,hj];refine(hits' i k p hkv).elim (fun h=>J0 h.1 (atKey_of_get hnb hj)) fun h=>z13 h fun q' hq' he er=>?_;have hqq:=Option.some.inj (hq'.symm.trans (atKey_of_get hnb hj));refine wpAny_holding ((hqq▸he) prog w _ _ ?_);cases hg:g i with
    |false=>
     rw[hpre,er,hg,Bool.false_and]at h';exact Qu (Qu h')
    |true=>
     rw[hg,Bool.true_and]at er;refine Qt (wpAny_dictEpoch hoa hda ?_);rw[if_neg (fun h=>bne_iff_ne.mp h rfl)];exact Qu fun G hG=>hrest▸hG (i+1) hlt (hpre.trans er)
  ·intro q s' hI;generalize hl:([]:List Nat)=l at hI;revert hl;apply hI;intro i hi hpre hr;refine Qu ?_;rw[hpre,range_nil hi hr.symm,←hla,hr0]at h';exact h'
theorem RcAt.dictsH{A:Around}{s:Shared}{K:Type}[DecidableEq K](knd:∀(prog:Program) (w:World),HeapKind prog w K){a b:Addr}{ka kb:List (K×Addr×Value)}(hroom:∀prog w,(knd prog w).room A.in1)
 (ha:(a==sysModules)=false) (hb:(b==sysModules)=false)
 (da:∀prog w,s.heap.DictOfH (knd prog w) a ka) (db:∀prog w,s.heap.DictOfH (knd prog w) b kb) (g:Nat→Bool) (r:Nat→Bool) (hu:A.units<cLine)
 (hr0:r ka.length=true)
 (hits:ka.length=kb.length→∀i k p,ka[i]?=some (k,p)→(atKey kb k=none∧r i=false)∨∃q,atKey kb k=some q∧EqAt A.in1 s p.2 q.2 (g i)∧r i=(g i&&r (i+1))):
 RcAt A s (.ref a) (.ref b) (ka.length==kb.length&&r 0):=fun prog w E Q h=>by
 have da:=da prog w;have db:=db prog w;refine wpAny_richCompare_same_room (op:=.Eq) da.typeIs db.typeIs PySem.F.slot_dict_eq (wpAny_call_entry PySem.F.slot_dict_eq da.typeIs PySem.F.entry_dict_eq ?_ (PySem.F.args_dict_eq_2 _ _)) hu;show wpAny _ _ (Builtin.Dict.dictSlotArgs "__eq__" ⟨[.ref a,.ref b],[]⟩ >>= _) _ _ s;refine Qt ?_;unfold Builtin.Dict.dictSlotArgs;refine Qt (wpAny_notOrdered_dict da.typeIs ?_);show wpAny _ _ (pure (Value.ref a,Value.ref b)) _ _ s;refine Qu ?_;refine Qt (wpAny_isInstance (T:= "dict") db.typeIs PySem.F.sub_dict_dict ?_);simp only[Bool.not_true,Qq,if_false];refine Qt (Qu (Qt (Qu ?_)));refine Qt (samePairsH (hroom prog w) ha hb da db g r hr0 hits ?_);refine Qu ⟨_,rfl,?_,?_⟩
 ·exact fun x=>nomatch x
 ·simpa using h
theorem itemsAre_any{prog':Program}{w':World}{k:List Int}{vs:List Value}(r:PySem.ItemsAre (intKind prog w) k vs):PySem.ItemsAre (intKind prog' w') k vs:=by
 induction r with
 |nil=>exact .nil
 |cons h1 _ ih=>exact .cons h1 ih
theorem dictOfH_any{prog':Program}{w':World}{h:Heap}{a:Addr}{Qy:List (List Int×Addr×Value)}(d:h.DictOfH (KK prog w) a Qy):h.DictOfH (KK prog' w') a Qy:=by
 refine cps fun qG qK=>?_;obtain⟨o,es,ep,e,hx,hd,he,hi,hn⟩:=d;refine qK ?_;refine⟨o,es,ep,e,hx,hd,he,fun x hx'=>?_,hn⟩;refine z34 (hi x hx') fun o2 items n2 e2 hc2 hd2 hi2=>?_;exact⟨o2,items,n2,e2,hc2,hd2,itemsAre_any hi2⟩
theorem J9.get{h:Heap}{ι:List Addr}{es:List (List Int×V)}{Qy:List (List Int×Addr×Value)}(r:J9 h ι es Qy):∀(i:Nat) (k:List Int) (p:Addr×Value),Qy[i]?=some (k,p)→
 ∃x,es[i]?=some (k,x)∧VR h ι (keyV k) (.ref p.1)∧VR h ι x p.2:=by
 induction r with
 |nil=>exact fun _ _ _ e=>Z3 e
 | @cons k' x _ _ _ _ q a _ ih=>exact fun i=>Nat.casesOn i (fun k p e=>by cases Option.some.inj e;exact⟨x,rfl,q,a⟩) fun i k p e=>ih i k p e
theorem J9.getE{h:Heap}{ι:List Addr}{es:List (List Int×V)}{Qy:List (List Int×Addr×Value)}(r:J9 h ι es Qy):∀(i:Nat) (k:List Int) (x:V),es[i]?=some (k,x)→
 ∃p,Qy[i]?=some (k,p)∧VR h ι (keyV k) (.ref p.1)∧VR h ι x p.2:=by
 induction r with
 |nil=>exact fun _ _ _ e=>Z3 e
 | @cons _ _ a' v _ _ q a _ ih=>exact fun i=>Nat.casesOn i (fun k p e=>by cases Option.some.inj e;exact⟨(a',v),rfl,q,a⟩) fun i k p e=>ih i k p e
theorem atKey_cons{K:Type}[DecidableEq K]{k' k:K}{p:Addr×Value}{l:List (K×Addr×Value)}:PySem.atKey ((k',p)::l) k=if k'=k then some p else PySem.atKey l k:=by
 unfold PySem.atKey;rw[List.find?_cons];by_cases h:k'=k
 ·rw[if_pos h,show decide (k'=k)=true from decide_eq_true h];rfl
 ·rw[if_neg h,show decide (k'=k)=false from decide_eq_false h]
theorem J9.atKey{h:Heap}{ι:List Addr}{es:List (List Int×V)}{Qy:List (List Int×Addr×Value)}(r:J9 h ι es Qy)(k:List Int):
 (Ue es k=none∧PySem.atKey Qy k=none)∨∃x p,Ue es k=some x∧PySem.atKey Qy k=some p∧VR h ι x p.2:=by
 induction r with
 |nil=>exact .inl ⟨rfl,rfl⟩
 | @cons k' x a v es' rows' q hx _ ih=>
  rw[atKey_cons];show((if k'=k then some x else Ue es' k)=none∧_)∨∃x p,(if k'=k then some _ else Ue es' k)=some x∧_;by_cases hk:k'=k
  ·rw[if_pos hk,if_pos hk];exact .inr ⟨x,(a,v),rfl,rfl,hx⟩
  ·rw[if_neg hk,if_neg hk];exact ih
theorem eqRows_run{f:V→V→Option Bool}{b:List (List Int×V)}:∀{a:List (List Int×V)} {r:Bool},eqRows f b a=some r→
 ∃R g:Nat→Bool,R 0=r∧R a.length=true∧∀(i:Nat) (k:List Int) (x:V),a[i]?=some (k,x)→
  (Ue b k=none∧R i=false)∨∃y,Ue b k=some y∧f x y=some (g i)∧R i=(g i&&R (i+1))
 |[],r,h=>⟨fun _=>true,fun _=>true,Option.some.inj h,rfl,fun _ _ _ e=>Z3 e⟩
 |(k,x)::a,r,h=>z23 (and2 h) fun c1 c2 e1 e2 e3=>z23 (eqRows_run e2) fun R g h0 hl hs=>⟨fun j=>Nat.casesOn j r R,fun j=>Nat.casesOn j c1 g,rfl,hl,fun i=>Nat.casesOn i (fun k' x' e=>by
  cases Option.some.inj e;cases hd:Ue b k with
  |none=>rw[hd]at e1;exact .inl ⟨rfl,by rw[←e3,←Option.some.inj e1,Bool.false_and]⟩
  |some u=>rw[hd]at e1;exact .inr ⟨u,rfl,e1,by rw[←e3,←h0]⟩) fun i k' x' e=>hs i k' x' e⟩
theorem eqD_loc{d:Nat}{σ:Sto}{m n:Nat}{b:Bool}(e:eqD (d+1) σ (.loc m) (.loc n)=some b)(hmn:m≠n):(∃xs ys,σ[m]?=some (.list xs)∧σ[n]?=some (.list ys)∧(if xs.length=ys.length then Y8 (eqD d σ) xs ys else some false)=some b)∨∃xs ys,σ[m]?=some (.dict xs)∧σ[n]?=some (.dict ys)∧(if xs.length=ys.length then eqRows (eqD d σ) ys xs else some false)=some b:=by
 replace e:=(if_neg hmn).symm.trans e
 revert e;generalize σ[m]?=p,σ[n]?=q;intro e;cases p with
 |none=>exact nomatch e
 |some p=>cases q with
  |none=>cases p<;>exact nomatch e
  |some q=>cases p with
   |list xs=>cases q with
    |list ys=>exact .inl ⟨xs,ys,rfl,rfl,e⟩
    |_=>exact nomatch e
   |dict xs=>cases q with
    |dict ys=>exact .inr ⟨xs,ys,rfl,rfl,e⟩
    |_=>exact nomatch e
   |_=>exact nomatch e
theorem seq_at{A:Around}{s:Shared}{ι:List Addr}{f:V→V→Option Bool}(ih:∀(x y:V) (b:Bool) (u v:Value),f x y=some b→VR s.heap ι x u→VR s.heap ι y v→EqAt A s u v b){xs ys:List V}{vs us:Array Value}{b:Bool}(q1:VsR s.heap ι xs vs.toList)(q2:VsR s.heap ι ys us.toList)(e:Y8 f xs ys=some b):
 ∃g,(∀j (h1:j<vs.size) (h2:j<us.size),EqAt A s vs[j] us[j] (g j))∧((List.range (min vs.size us.size)).all g&&vs.size==us.size)=b:=by
 refine z12 (eqList_pairs e) fun g h1 h2=>⟨g,fun j hj1 hj2=>?_,?_⟩
 ·refine z12 (q1.getV j vs[j] (by rw[Array.getElem?_toList];exact Array.getElem?_eq_getElem hj1)) fun x ex rx=>z12 (q2.getV j us[j] (by rw[Array.getElem?_toList];exact Array.getElem?_eq_getElem hj2)) fun y ey ry=>?_;exact ih x y (g j) _ _ (h1 j x y ex ey) rx ry
 ·rw[q1.length,q2.length,Array.length_toList,Array.length_toList]at h2;exact h2
theorem eqD_at{B:Bas}{σ:Sto}{ι:List Addr}{s:Shared}(R:Rel prog w B σ ι s.heap)(hB:∃o,B.get? sysModules=some o)(d:Nat):∀(A:Around) (x y:V) (b:Bool) (u v:Value),A.units+d<cLine→eqD d σ x y=some b→VR s.heap ι x u→VR s.heap ι y v→
 EqAt A s u v b∧((∀(m n:Nat),x=.loc m→y=.loc n→m≠n∧∀es,σ[n]?≠some (.dict es))→RcAt A s u v b∧RcNeAt A s u v (!b)):=by
 induction d with
 |zero=>exact fun _ _ _ _ _ _ _ e=>nomatch e
 |succ d ih=>
  intro A x y b u v hA e hx hy;have hA1:A.in1.units+d<cLine:=by
   show A.units+1+d<cLine;rw[Nat.add_assoc,Nat.add_comm 1 d];exact hA
  have hA0:A.units<cLine:=Nat.lt_of_le_of_lt (Nat.le_add_right ..) hA;have ih1:∀(x y:V) (b:Bool) (u v:Value),eqD d σ x y=some b→VR s.heap ι x u→VR s.heap ι y v→EqAt A.in1 s u v b:=fun x y b u v e hx hy=>(ih A.in1 x y b u v hA1 e hx hy).1;cases x with
  |none=>exact nomatch e
  |bool p=>
   cases y with
   |bool q=>
    rw[hx.bool_inv,hy.bool_inv,←Option.some.inj e];exact⟨SeqAt.EqAt.bool_bool p q,fun _=>⟨SeqAt.RcAt.bool_bool p q,SeqAt.RcNeAt.bool_bool p q⟩⟩
   |_=>exact nomatch e
  |int p=>
   cases y with
   |int q=>
    refine cps fun qG qK=>?_;refine z11 hx.int_inv fun t et=>z11 hy.int_inv fun t' et'=>?_;refine qK ?_;rw[et,et',←Option.some.inj e];exact⟨SeqAt.EqAt.int_int p t q t',fun _=>⟨SeqAt.RcAt.int_int p t q t',SeqAt.RcNeAt.int_int p t q t'⟩⟩
   |_=>exact nomatch e
  |str p=>
   cases y with
   |str q=>
    refine z12 hx.str_inv fun t et hp=>z12 hy.str_inv fun t' et' hq=>?_;have hb:(snm p==snm q)=decide (p=q):=by rw[Bool.eq_iff_iff,beq_iff_eq,decide_eq_true_iff];exact⟨snm_inj hp hq,congrArg snm⟩
    rw[et,et',←Option.some.inj e,←hb];exact⟨SeqAt.EqAt.str_str _ t _ t',fun _=>⟨SeqAt.RcAt.str_str _ t _ t',SeqAt.RcNeAt.str_str _ t _ t'⟩⟩
   |_=>exact nomatch e
  |tup xs=>
   cases y with
   |tup ys=>
    refine hx.tupE fun a1 vs1 n1 e1 q1 hx=>hy.tupE fun a2 vs2 n2 e2 q2 hy=>?_;have hrc:RcAt A s (.ref a1) (.ref a2) b∧RcNeAt A s (.ref a1) (.ref a2) (!b):=
     z12 (seq_at ih1 q1 q2 e) fun g hall h2=>h2▸⟨SeqAt.RcAt.tuples (J4 e1) (J4 e2) hA0 hall,SeqAt.RcNeAt.tuples (J4 e1) (J4 e2) hA0 hall⟩
    refine⟨?_,fun _=>hrc⟩;by_cases ha:a1=a2
    ·have hxy:V.tup xs=V.tup ys:=VR.uniq R.nodup R.tupOut hx (ha▸hy);have e:Y8 (eqD d σ) xs ys=some b:=e;rw[←V.tup.inj hxy]at e;rw[ha,←eqList_refl (fun x b h=>eqD_refl d σ x b h) e];exact SeqAt.EqAt.same _
    ·exact SeqAt.EqAt.of_refs ha hrc.1
   |_=>exact nomatch e
  |loc m=>
   cases y with
   |loc n=>
    refine hx.locE fun a1 e1=>hy.locE fun a2 e2=>?_;by_cases hmn:m=n
    ·have ea:a1=a2:=Option.some.inj (e1.symm.trans (hmn▸e2));rw[ea,←Option.some.inj ((if_pos hmn).symm.trans e)];exact⟨SeqAt.EqAt.same _,fun h=>absurd hmn (h m n rfl rfl).1⟩
    ·have hne:a1≠a2:=fun h=>hmn ((List.getElem?_inj (Yc e1) R.nodup).mp (e1.trans (h▸e2.symm)));refine(eqD_loc e hmn).elim (fun h=>z23 h fun xs ys hm hn e=>z22 (R.obs m _ a1 hm e1) fun vs1 n1 g1 q1=>z22 (R.obs n _ a2 hn e2) fun vs2 n2 g2 q2=>?_) fun h=>z23 h fun xs ys hm hn e=>z12 (R.obs m _ a1 hm e1) fun ra da qa=>z12 (R.obs n _ a2 hn e2) fun rb db qb=>?_
     ·have hl:xs.length=ys.length↔vs1.size=vs2.size:=by rw[q1.length,q2.length,Array.length_toList,Array.length_toList]
      by_cases hlen:xs.length=ys.length
      ·have hsz:=hl.mp hlen;refine z12 (seq_at ih1 q1 q2 ((if_pos hlen).symm.trans e)) fun g hall h2=>?_;rw[←hsz,Nat.min_self,beq_self_eq_true,Bool.and_true]at h2;have hrc:=SeqAt.RcAt.lists (Ga g1) (Ga g2) hsz hA0 hall;exact h2▸⟨SeqAt.EqAt.of_refs hne hrc,fun _=>⟨hrc,SeqAt.RcNeAt.lists (Ga g1) (Ga g2) hsz hA0 hall⟩⟩
      ·have hsz:(vs1.size !=vs2.size)=true:=bne_iff_ne.mpr fun h=>hlen (hl.mpr h);have hrc:=SeqAt.RcAt.lists_lengths (s:=s) (A:=A) (Ga g1) (Ga g2) hsz hA0;exact Option.some.inj ((if_neg hlen).symm.trans e)▸⟨SeqAt.EqAt.of_refs hne hrc,fun _=>⟨hrc,SeqAt.RcNeAt.lists_lengths (Ga g1) (Ga g2) hsz hA0⟩⟩
     ·have nsm:∀{k a} {es:List (List Int×V)},σ[k]?=some (Ob.dict es)→ι[k]?=some a→(a==sysModules)=false:=fun hk ek=>beq_eq_false_iff_ne.mpr fun h=>z11 hB fun o eo=>J0 (R.new _ _ _ hk ek rfl) (h▸eo);have hl:xs.length=ys.length↔ra.length=rb.length:=by rw[qa.length,qb.length]
      refine⟨?_,fun h=>absurd hn ((h m n rfl rfl).2 _)⟩;have fin:∀(g S:Nat→Bool),S ra.length=true→_→(ra.length==rb.length&&S 0)=b→EqAt A s (.ref a1) (.ref a2) b:=fun g S h1 h2 h3=>h3▸SeqAt.EqAt.of_refs hne (RcAt.dictsH (fun prog w=>KK prog w) (fun prog w=>Nat.lt_of_le_of_lt (Nat.le_add_right ..) hA1) (nsm hm e1) (nsm hn e2) (fun _ _=>dictOfH_any da) (fun _ _=>dictOfH_any db) g S hA0 h1 h2);by_cases hlen:xs.length=ys.length
      ·refine z23 (eqRows_run ((if_pos hlen).symm.trans e)) fun S g h0 hl' hs=>fin g S (qa.length▸hl') (fun _ i k p hi=>z13 (qa.get i k p hi) fun x ex _ rx=>(hs i k x ex).elim (fun h=>(qb.atKey k).elim (fun h'=>.inl ⟨h'.2,h.2⟩) fun h'=>z23 h' fun _ _ h1 _ _=>J0 h.1 h1) fun h=>z13 h fun y g1 g2 g3=>(qb.atKey k).elim (fun h'=>J0 h'.1 g1) fun h'=>z23 h' fun y' p' h1 h2 ry=>.inr ⟨p',h2,ih1 x y (g i) _ _ g2 rx (Option.some.inj (h1.symm.trans g1)▸ry),g3⟩) ?_;rw[h0,beq_iff_eq.mpr (hl.mp hlen),Bool.true_and]
      ·exact fin (fun _=>false) (fun j=>decide (j=ra.length)) (decide_eq_true rfl) (fun h=>absurd (hl.mpr h) hlen) (by rw[beq_eq_false_iff_ne.mpr fun h=>hlen (hl.mpr h),Bool.false_and];exact Option.some.inj ((if_neg hlen).symm.trans e))
   |_=>exact nomatch e
noncomputable def RcOp(op:CmpOp)(A:Around)(s:Shared)(y x:Value)(b:Bool):Prop:=
 ∀(prog:Program) (w:World) (E:Value→Shared→Prop) (Q:Value→Shared→Prop),Q (.bool b) s→wpAny (model prog w) A (richCompare op y x) Q E s
inductive Lex(op:CmpOp)(A:Around)(s:Shared)(fin:Bool):List (Value×Value)→Bool→Prop
 |nil:Lex op A s fin [] fin
 |same {x y:Value} {r:List (Value×Value)} {b:Bool}:EqAt A s x y true→Lex op A s fin r b→Lex op A s fin ((x,y)::r) b
 |other {x y:Value} {r:List (Value×Value)} {b:Bool}:EqAt A s x y false→RcOp op A s x y b→Lex op A s fin ((x,y)::r) b
noncomputable def Lex.F(op:CmpOp)(A:Around)(s:Shared)(b:Bool)(l:List (Value×Value))(r:Bool):Prop:=match l with
 |[]=>r=b
 |x::l=>(EqAt A s x.1 x.2 true∧Lex op A s b l r)∨EqAt A s x.1 x.2 false∧RcOp op A s x.1 x.2 r
theorem Lex.fwd{op:CmpOp}{A:Around}{s:Shared}{b:Bool}{l:List (Value×Value)}{r:Bool}(h:Lex op A s b l r):Lex.F op A s b l r:=by
 cases h with
 |nil=>exact rfl
 |same h1 h2=>exact .inl ⟨h1,h2⟩
 |other h1 h2=>exact .inr ⟨h1,h2⟩
theorem tuple_ltAt(l b:Addr)(items items2:Array Value)(n n2:Nat)(dd dd2:Option Addr)(sl sl2:Array (Option Value))(r:Bool):
 Meets (Builtin.«tuple.__lt__» ⟨[.ref l,.ref b],[]⟩)
  (fun A R s=>s.heap.get? l=some {cls:=.type "tuple",dict:=dd,data:=.seq items n,slots:=sl}∧s.heap.get? b=some {cls:=.type "tuple",dict:=dd2,data:=.seq items2 n2,slots:=sl2}∧
   Lex .Lt A.in1 s (decide (items.size<items2.size)) (items.toList.zip items2.toList) r∧
   R (.ok (.ret (.bool r))) s):=
 .of_wp fun prog w A R s h=>by
  obtain⟨hp,g,d,tk,os⟩:=s;obtain⟨hl,hb,he,h⟩:=h;have f2:=AutoSeq1.sub_tuple_tuple
  wp_walk using AutoSeq1.wpAny_loadPart' hl,AutoSeq1.wpAny_loadPart' hb,wpAny_forIn_list _ (fun rest b s'=>b.1=none∧s'=⟨hp,g,d,tk,os⟩∧Lex .Lt A.in1 ⟨hp,g,d,tk,os⟩ (decide (items.size<items2.size)) rest r) _
  case turn=>
   intro x rest b s' hI;refine zA3 hI fun hb' e hz=>?_;subst e;refine hz.fwd.elim (fun hz=>?_) fun hz=>?_
   ·refine Qt (hz.1 prog w _ _ ?_)
    wp_walk
    exact⟨rfl,rfl,hz.2⟩
   ·refine Qt (hz.1 prog w _ _ ?_);refine Qt (wpAny_rule (Qt (hz.2 prog w _ _ ?_)));refine Qt (Qu (Qu ?_));exact Qu ⟨_,rfl,h⟩
  case fin=>
   intro b s' hI;refine zA3 hI fun hb' e hz=>?_;subst e;have hr:r=_:=hz.fwd;subst hr;cases b with|mk b1 b2=>
   have hb':b1=none:=hb';subst hb'
   wp_walk
   exact⟨_,rfl,by simpa[Builtin.Tuple.tupleCompareSizes]using h⟩
  case h=>
   exact⟨rfl,rfl,he⟩
theorem tuple_gtAt(l b:Addr)(items items2:Array Value)(n n2:Nat)(dd dd2:Option Addr)(sl sl2:Array (Option Value))(r:Bool):
 Meets (Builtin.«tuple.__gt__» ⟨[.ref l,.ref b],[]⟩)
  (fun A R s=>s.heap.get? l=some {cls:=.type "tuple",dict:=dd,data:=.seq items n,slots:=sl}∧s.heap.get? b=some {cls:=.type "tuple",dict:=dd2,data:=.seq items2 n2,slots:=sl2}∧
   Lex .Gt A.in1 s (decide (items2.size<items.size)) (items.toList.zip items2.toList) r∧
   R (.ok (.ret (.bool r))) s):=
 .of_wp fun prog w A R s h=>by
  obtain⟨hp,g,d,tk,os⟩:=s;obtain⟨hl,hb,he,h⟩:=h;have f2:=AutoSeq1.sub_tuple_tuple
  wp_walk using AutoSeq1.wpAny_loadPart' hl,AutoSeq1.wpAny_loadPart' hb,wpAny_forIn_list _ (fun rest b s'=>b.1=none∧s'=⟨hp,g,d,tk,os⟩∧Lex .Gt A.in1 ⟨hp,g,d,tk,os⟩ (decide (items2.size<items.size)) rest r) _
  case turn=>
   intro x rest b s' hI;refine zA3 hI fun hb' e hz=>?_;subst e;refine hz.fwd.elim (fun hz=>?_) fun hz=>?_
   ·refine Qt (hz.1 prog w _ _ ?_)
    wp_walk
    exact⟨rfl,rfl,hz.2⟩
   ·refine Qt (hz.1 prog w _ _ ?_);refine Qt (wpAny_rule (Qt (hz.2 prog w _ _ ?_)));refine Qt (Qu (Qu ?_));exact Qu ⟨_,rfl,h⟩
  case fin=>
   intro b s' hI;refine zA3 hI fun hb' e hz=>?_;subst e;have hr:r=_:=hz.fwd;subst hr;cases b with|mk b1 b2=>
   have hb':b1=none:=hb';subst hb'
   wp_walk
   exact⟨_,rfl,by simpa[Builtin.Tuple.tupleCompareSizes]using h⟩
  case h=>
   exact⟨rfl,rfl,he⟩
noncomputable def opOf(o:Bool):CmpOp:=if o then .Gt else .Lt
theorem ltList_lex{o:Bool}{A:Around}{s:Shared}{ι:List Addr}{f g:V→V→Option Bool}
 (hf:∀x y b u v,f x y=some b→VR s.heap ι x u→VR s.heap ι y v→EqAt A s u v b) (hg:∀x y b u v,g x y=some b→VR s.heap ι x u→VR s.heap ι y v→RcOp (opOf o) A s u v b)
 {xs:List V} {us:List Value} (hx:VsR s.heap ι xs us):∀{ys:List V} {vs:List Value} {b:Bool},ltList o f g xs ys=some b→VsR s.heap ι ys vs→Lex (opOf o) A s (if o then decide (vs.length<us.length)else decide (us.length<vs.length)) (us.zip vs) b:=by
 refine hx.ind (P:=fun xs us=>∀{ys:List V} {vs:List Value} {b:Bool},ltList o f g xs ys=some b→VsR s.heap ι ys vs→Lex (opOf o) A s (if o then decide (vs.length<us.length)else decide (us.length<vs.length)) (us.zip vs) b) (fun{ys vs b} e hy=>?_) fun{x u xs us} a _ ih {ys vs b} e hy=>?_
 ·cases ys with
  |nil=>
   have hv:vs=[]:=hy.fwd;subst hv;exact Option.some.inj e▸(by cases o<;>exact .nil)
  |cons y ys=>exact z23 hy.fwd fun v t ev _ _=>by subst ev;exact Option.some.inj e▸(by cases o<;>exact .nil)
 ·cases ys with
  |nil=>
   have hv:vs=[]:=hy.fwd;subst hv;exact Option.some.inj e▸(by cases o<;>exact .nil)
  |cons y ys=>
   refine z23 hy.fwd fun v t ev hv ht=>bnE e fun c hc e=>?_;subst ev;have hl:∀n m:Nat,decide (n+1<m+1)=decide (n<m):=fun n m=>decide_eq_decide.mpr (Nat.add_lt_add_iff_right);rw[Qa,Qa,hl,hl];cases c with
   |true=>exact .same (hf _ _ _ _ _ hc a hv) (ih e ht)
   |false=>exact .other (hf _ _ _ _ _ hc a hv) (hg _ _ _ _ _ e a hv)
theorem ltD_at{B:Bas}{σ:Sto}{ι:List Addr}{s:Shared}(R:Rel prog w B σ ι s.heap)(hB:∃o,B.get? sysModules=some o)(o:Bool):∀(d:Nat) (A:Around) (x y:V) (b:Bool) (u v:Value),A.units+d<cLine→ltD o d σ x y=some b→VR s.heap ι x u→VR s.heap ι y v→
 RcOp (opOf o) A s u v b:=by
 intro d;induction d with
 |zero=>exact fun _ _ _ _ _ _ _ e _ _=>nomatch e
 |succ d ih=>
  intro A x y b u v hA e hx hy;cases x with
  |int p=>
   refine bnE e fun q hq e=>?_;rw[Yd hq]at hy;refine VR.intE hx fun t=>VR.intE hy fun t'=>Option.some.inj e▸ ?_;cases o with
   |true=>exact fun _ _ _ _ h=>PyProof.Rows.gt_int h
   |false=>exact fun _ _ _ _ h=>PyProof.Rows.lt_int h
  |tup xs=>
   refine bnE e fun ys hq e=>?_;rw[Yu hq]at hy;refine VR.tupE hx fun a1 vs1 n1 e1 q1 _=>VR.tupE hy fun a2 vs2 n2 e2 q2 _=>?_;have hA1:A.units+1+d<cLine:=Jl (G6 _ _) 1 (.add (.add (.var 0) (.num 1)) (.var 1)) (.num 9900) [Ge 1 (.add (.var 0) (.add (.var 1) (.num 1))) (.num 9900)] rfl hA;have hL:=ltList_lex (A:=A.in1) (fun x y b u v h hx hy=>(eqD_at R hB d A.in1 x y b u v hA1 h hx hy).1) (fun x y b u v h hx hy=>ih A.in1 x y b u v hA1 h hx hy) q1 e q2;have hu:A.units<cLine:=Nat.lt_of_le_of_lt (Nat.le_add_right ..) hA;cases o with
   |true=>
    exact fun prog w E Q h=>richCompare_meets_room (op:=.Gt) ⟨_,e1,rfl⟩ ⟨_,e2,rfl⟩ F.slot_tuple_gt F.entry_tuple_gt (F.args_tuple_gt_2 _ _) (tuple_gtAt a1 a2 vs1 vs2 n1 n2 _ _ _ _ b)
     ⟨e1,e2,hL,show Value.bool b≠Value.notImplemented∧Q (.bool b) s from⟨(fun x=>nomatch x),h⟩⟩ hu
   |false=>
    exact fun prog w E Q h=>richCompare_meets_room (op:=.Lt) ⟨_,e1,rfl⟩ ⟨_,e2,rfl⟩ F.slot_tuple_lt F.entry_tuple_lt (F.args_tuple_lt_2 _ _) (tuple_ltAt a1 a2 vs1 vs2 n1 n2 _ _ _ _ b)
     ⟨e1,e2,hL,show Value.bool b≠Value.notImplemented∧Q (.bool b) s from⟨(fun x=>nomatch x),h⟩⟩ hu
  |_=>exact nomatch e
end
structure Yj(A:Around)(k:Nat):Prop where
 h:A.handled=none
 d:A.depth+k+100<recursionLimit
 u:A.units+3*k+100<cLine
 fr:∃env l,A.frames=some (env::l)∧env.scope.isGenerator=false∧env.scope.isCoroutine=false∧env.builtins=builtinsNs∧env.globals=mainGlobals
structure Bs(prog:Program)(B:Bas):Prop where
 two:∃o,B.get? sysModules=some o
 low:∃H:Heap,(∀a o,H.get? a=some o→B.get? a=some o)∧H.NoSeer∧H.NoLimit
 tree:prog.given.tree=none
noncomputable def copOf:COp→CmpOp
 |.eq=>.Eq|.ne=>.NotEq|.lt=>.Lt|.le=>.LtE|.gt=>.Gt|.ge=>.GtE|.is=>.Is|.isNot=>.IsNot|.isin=>.In|.notIn=>.NotIn
theorem inList_any{f:V→V→Option Bool}{x:V}:∀{ys:List V} {b:Bool},Ze f x ys=some b→(∀y∈ys,∃c,f y x=some c)∧b=ys.any fun y=>decide (f y x=some true)
 |[],b,e=>by simp[Ze]at e;simp[←e]
 |y::ys,b,e=>by
  simp only[Ze]at e;split at e
  ·rename_i b1 c1 e1 e2;refine zA2 (inList_any e2) fun h1 h2=>?_;injection e with e;refine⟨fun z hz=>?_,?_⟩
   ·rcases Q5 hz with rfl|hz
    ·exact⟨_,e1⟩
    ·exact h1 z hz
   ·rw[List.any_cons,←h2,←e,e1];cases b1<;>simp
  ·cases e
section
variable{prog:Program}{w:World}{A:Around}{E:Value→Shared→Prop}{B:Bas}{σ:Sto}{ι:List Addr}{s:Shared}{k:Nat}
open Classical in
theorem in_any(R:Rel prog w B σ ι s.heap)(hB:∃o,B.get? sysModules=some o){A':Around}(hA:A'.units+8<cLine){x:V}{u:Value}(hx:VR s.heap ι x u){ys:List V}{b:Bool}(e:Ze (eqD 8 σ) x ys=some b){us:Array Value}(r:VsR s.heap ι ys us.toList):
 ∃g:Value→Bool,(∀y,y∈us→EqAt A' s y u (g y))∧us.any g=b:=by
 refine zA2 (inList_any e) fun h1 h2=>?_;refine⟨fun v=>decide (∃y∈ys,VR s.heap ι y v∧eqD 8 σ y x=some true),fun v hv=>?_,?_⟩
 ·refine z11 (Qn (Array.mem_toList_iff.mpr hv)) fun i hi=>?_;refine z12 (r.getV i v hi) fun y ey ry=>?_;have hm:=Qf ey;refine z11 (h1 y hm) fun c hc=>?_;have:decide (∃y∈ys,VR s.heap ι y v∧eqD 8 σ y x=some true)=c:=by
   cases c with
   |true=>exact decide_eq_true ⟨y,hm,ry,hc⟩
   |false=>
    refine decide_eq_false ?_;rintro⟨y',_,ry',hc'⟩;rw[VR.uniq R.nodup R.tupOut ry' ry,hc]at hc';cases hc'
  show EqAt A' s v u (decide (∃y∈ys,VR s.heap ι y v∧eqD 8 σ y x=some true));rw[this];exact(eqD_at R hB 8 A' y x c v u hA hc ry hx).1
 ·rw[h2,←Array.any_toList];have key:∀{zs:List V} {vs:List Value},VsR s.heap ι zs vs→(∀z∈zs,z∈ys)→(vs.any fun v=>decide (∃y∈ys,VR s.heap ι y v∧eqD 8 σ y x=some true))=zs.any fun y=>decide (eqD 8 σ y x=some true):=by
   intro zs;induction zs with
   |nil=>intro vs q _;cases q;rfl
   |cons z zs ih=>
    intro vs q hm;cases q with
    |cons a c=>
     rw[List.any_cons,List.any_cons,ih c fun z hz=>hm z (.tail _ hz)];congr 1;by_cases hz:eqD 8 σ z x=some true
     ·rw[decide_eq_true hz];exact decide_eq_true ⟨z,hm z (.head _),a,hz⟩
     ·rw[decide_eq_false hz];refine decide_eq_false ?_;rintro⟨y',_,ry',hc'⟩;rw[VR.uniq R.nodup R.tupOut ry' a]at hc';exact hz hc'
  exact key r fun _ h=>h
theorem Jt(hB:∃o,B.get? sysModules=some o){a:Addr}(h:B.get? a=none):(a==sysModules)=false:=
 beq_eq_false_iff_ne.mpr fun e=>by subst e;obtain⟨o,e⟩:=hB;rw[h]at e;cases e
theorem memb_snd{x y:V}{r:Bool}{u v:Value}{Q:Value→Shared→Prop}(R:Rel prog w B σ ι s.heap)(hB:∃o,B.get? sysModules=some o)(rm:Yj A k)(e:memb x y σ=some r)(hx:VR s.heap ι x u)(hy:VR s.heap ι y v):
 ((∀t,Q (.bool r) {s with toks:=t})→wpAny (model prog w) A (compareOp .In u v) Q E s)∧((∀t,Q (.bool !r) {s with toks:=t})→wpAny (model prog w) A (compareOp .NotIn u v) Q E s):=by
 have hu:=rm.u;have hin1:A.in1.units+8<cLine:=by simp only;exact Jl (G6 _ _) 1 (.add (.add (.var 0) (.num 1)) (.num 8)) (.num 9900) [Ge 1 (.add (.add (.var 0) (.mulL 3 (.var 1))) (.num 100)) (.num 9900)] rfl hu
 cases y with
 |tup b=>
  refine VR.tupE hy fun a vs n ev q _=>?_;refine z12 (in_any R hB hin1 hx (show Ze (eqD 8 σ) x b=some r from e) q) fun g g1 g2=>?_;exact⟨fun h=>SeqAt.in_tupleAt g (J4 ev) g1 (g2▸h s.toks),fun h=>SeqAt.notIn_tupleAt g (J4 ev) g1 (g2▸h s.toks)⟩
 |loc n=>
  refine VR.locE hy fun a ea=>?_;unfold memb at e;dsimp only at e;split at e
  ·rename_i l hl;refine z22 (R.obs n _ a hl ea) fun vs m ev q=>?_;refine z12 (in_any R hB hin1 hx e q) fun g g1 g2=>?_;exact⟨fun h=>SeqAt.in_listAt g (Ga ev) g1 (g2▸h s.toks),fun h=>SeqAt.notIn_listAt g (Ga ev) g1 (g2▸h s.toks)⟩
  ·rename_i es hl;cases x with
   |tup kk=>
    obtain⟨key,hk,rfl⟩:=Qo e;obtain rfl:=Ub hk;refine cps fun qG qK=>?_;refine z12 (R.obs n _ a hl ea) fun Qy dd qq=>?_;obtain⟨b,vs,m,rfl,ev,q⟩:=hx.tup_ref;refine qK ?_;have hkey:(KK prog w).is s.heap key b:=VR.isKey (k:=key) hx;have hr:(PySem.atKey Qy key).isSome=(Ue es key).isSome:=by
     rcases qq.atKey key with⟨h1,h2⟩|⟨x',p',h1,h2,_⟩<;>(rw[h1,h2];try rfl)
    exact⟨fun h=>wpAny_in_heap (knd:=KK prog w) (by show A.in1.units<cLine;exact Jl (.leaf _) 1 (.var 0) (.num 9900) [Ge 1 (.add (.var 0) (.num 8)) (.num 9900)] rfl hin1) hkey (Jt hB (R.new n _ a hl ea rfl)) dd (hr▸h _),fun h=>wpAny_notIn_heap (knd:=KK prog w) (by show A.in1.units<cLine;exact Jl (.leaf _) 1 (.var 0) (.num 9900) [Ge 1 (.add (.var 0) (.num 8)) (.num 9900)] rfl hin1) hkey (Jt hB (R.new n _ a hl ea rfl)) dd (hr▸h _)⟩
   |_=>cases e
  ·cases e
 |_=>cases e
theorem eqB_snd{x y:V}{r:Bool}{u v:Value}(R:Rel prog w B σ ι s.heap)(hB:∃o,B.get? sysModules=some o)(rm:Yj A k)(e:eqB x y σ=some r)(hx:VR s.heap ι x u)(hy:VR s.heap ι y v):RcAt A s u v r∧RcNeAt A s u v (!r):=by
 have hu:=rm.u;have heq:∀{r'},eqD 8 σ x y=some r'→(∀(m n:Nat),x=.loc m→y=.loc n→m≠n∧∀es,σ[n]?≠some (.dict es))→RcAt A s u v r'∧RcNeAt A s u v (!r'):=fun e' hc=>(eqD_at R hB 8 A x y _ u v (by exact Jl (G6 _ _) 1 (.add (.var 0) (.num 8)) (.num 9900) [Ge 1 (.add (.add (.var 0) (.mulL 3 (.var 1))) (.num 100)) (.num 9900)] rfl hu) e' hx hy).2 hc;unfold eqB at e;cases ex:x.asL with
 |none=>rw[ex]at e;exact heq e fun m n h1 _=>by rw[h1]at ex;cases ex
 |some m=>
  rw[ex]at e;cases ey:y.asL with
  |none=>rw[ey]at e;exact heq e fun _ n _ h2=>by rw[h2]at ey;cases ey
  |some n=>
   rw[ey]at e;refine bnE e fun l hl e=>?_;refine zA2 (ifn_inv e) fun hmn e=>?_;refine heq e fun m' n' h1 h2=>?_;rw[h1]at ex;cases ex;rw[h2]at ey;cases ey;exact⟨hmn,fun es he=>by rw[asLst_inv hl]at he;cases he⟩
theorem cmpop_snd{op:COp}{x y:V}{r:Bool}{u v:Value}{Q:Value→Shared→Prop}(R:Rel prog w B σ ι s.heap)(hB:∃o,B.get? sysModules=some o)(rm:Yj A k)(e:Gy op x y σ=some r)(hx:VR s.heap ι x u)(hy:VR s.heap ι y v)
 (h:∀t,Q (.bool r) {s with toks:=t}):wpAny (model prog w) A (compareOp (copOf op) u v) Q E s:=by
 have hu:=rm.u;have h0:Q (.bool r) s:=h s.toks;cases op with
 |eq=>exact(eqB_snd R hB rm e hx hy).1 prog w E Q h0
 |ne=>
  obtain⟨r',e',rfl⟩:=Qo e;exact(eqB_snd R hB rm e' hx hy).2 prog w E Q h0
 |lt=>
  cases x with
  |int a=>
   refine bnE e fun b hb e=>?_;obtain rfl:=Yd hb;obtain⟨t,rfl⟩:=hx.int_inv;obtain⟨t',rfl⟩:=hy.int_inv;cases e;exact PyProof.Rows.lt_int h0
  |tup a=>
   refine bnE e fun b hb e=>?_;obtain rfl:=Yu hb;exact ltD_at R hB false 8 A _ _ _ _ _ (by exact Jl (G6 _ _) 1 (.add (.var 0) (.num 8)) (.num 9900) [Ge 1 (.add (.add (.var 0) (.mulL 3 (.var 1))) (.num 100)) (.num 9900)] rfl hu) e hx hy prog w E Q h0
  |_=>cases e
 |gt=>
  cases x with
  |int a=>
   refine bnE e fun b hb e=>?_;obtain rfl:=Yd hb;obtain⟨t,rfl⟩:=hx.int_inv;obtain⟨t',rfl⟩:=hy.int_inv;cases e;exact PyProof.Rows.gt_int h0
  |tup a=>
   refine bnE e fun b hb e=>?_;obtain rfl:=Yu hb;exact ltD_at R hB true 8 A _ _ _ _ _ (by exact Jl (G6 _ _) 1 (.add (.var 0) (.num 8)) (.num 9900) [Ge 1 (.add (.add (.var 0) (.mulL 3 (.var 1))) (.num 100)) (.num 9900)] rfl hu) e hx hy prog w E Q h0
  |_=>cases e
 |le=>
  refine bnE e fun a ha e=>?_;refine bnE e fun b hb e=>?_;obtain rfl:=Yd ha;obtain rfl:=Yd hb;obtain⟨t,rfl⟩:=hx.int_inv;obtain⟨t',rfl⟩:=hy.int_inv;cases e;exact PyProof.Rows.le_int h0
 |ge=>
  refine bnE e fun a ha e=>?_;refine bnE e fun b hb e=>?_;obtain rfl:=Yd ha;obtain rfl:=Yd hb;obtain⟨t,rfl⟩:=hx.int_inv;obtain⟨t',rfl⟩:=hy.int_inv;cases e;exact PyProof.Rows.ge_int h0
 |is=>
  cases y with
  |none=>
   obtain rfl:=hy.none_inv;rcases asN_inv e with⟨rfl,rfl⟩|⟨⟨l,rfl⟩,rfl⟩
   ·obtain rfl:=hx.none_inv;exact wpAny_is_plain rfl h0
   ·refine VR.tupE hx fun a vs n _ _ _=>?_;exact wpAny_is_plain rfl h0
  |_=>cases e
 |isNot=>
  cases y with
  |none=>
   obtain rfl:=hy.none_inv;obtain⟨r',e',rfl⟩:=Qo e;rcases asN_inv e' with⟨rfl,rfl⟩|⟨⟨l,rfl⟩,rfl⟩
   ·obtain rfl:=hx.none_inv;exact wpAny_isNot_plain rfl h0
   ·refine VR.tupE hx fun a vs n _ _ _=>?_;exact wpAny_isNot_plain rfl h0
  |_=>cases e
 |isin=>exact(memb_snd R hB rm e hx hy).1 h
 |notIn=>
  obtain⟨r',e',rfl⟩:=Qo e;exact(memb_snd R hB rm e' hx hy).2 h
end
noncomputable def bopOf:BOp→Operator
 |.add=>.Add|.sub=>.Sub|.mul=>.Mult|.fdiv=>.FloorDiv|.mod=>.Mod|.pow=>.Pow
theorem fits_bits{i:Int}(h:fits i=true):Builtin.Int.intBits i≤1000000:=by
 unfold fits at h;have h:=of_decide_eq_true h;unfold Builtin.Int.intBits;split<;>lia
theorem fits_mul{a b:Int}(ha:fits a=true)(hb:fits b=true):IntMulOk a b:=by
 have h1:=fits_bits ha;have h2:=fits_bits hb;unfold IntMulOk;have:Builtin.Int.intTooBig (Builtin.Int.intBits a+Builtin.Int.intBits b)=false:=by
  unfold Builtin.Int.intTooBig;simp only[decide_eq_false_iff_not];unfold bitsLine;lia
 rw[this];simp
section
variable{prog:Program}{w:World}{A:Around}{E:Value→Shared→Prop}{B:Bas}{σ:Sto}{ι:List Addr}{s:Shared}{k:Nat}
noncomputable def Jp(prog:Program)(w:World)(B:Bas)(ι:List Addr)(s:Shared)(v:V)(σ':Sto)(Q:Value→Shared→Prop):Prop:=
 ∀ι' s' u,Ext (prog:=prog) (w:=w) B ι s σ' ι' s'→VR s'.heap ι' v u→Q u s'
theorem Jp.si{v:V}{σ' σ'':Sto}{x:V}{Q:Value→Shared→Prop}(h:Jp prog w B ι s v σ' Q)(e:some (x,σ'')=some (v,σ')):Jp prog w B ι s x σ'' Q:=by cases e;exact h
theorem Jp.tok{v:V}{Q:Value→Shared→Prop}{u:Value}(R:Rel prog w B σ ι s.heap)(h:Jp prog w B ι s v σ Q)(t:Nat)(r:VR s.heap ι v u):Q u {s with toks:=t}:=h ι _ u (Gs.tok R t) r
theorem Jp.here{v:V}{Q:Value→Shared→Prop}{u:Value}(R:Rel prog w B σ ι s.heap)(h:Jp prog w B ι s v σ Q)(r:VR s.heap ι v u):Q u s:=h ι _ u (Gs.refl R) r
theorem G2(h:Heap)(o:Obj):∀b o',h.get? b=some o'→(h.push o).get? b=some o':=fun _ _ e=>Heap.get?_push_of_some o e
theorem Jp.tup{xs:List V}{vs:Array Value}{n t:Nat}{Q:Value→Shared→Prop}(R:Rel prog w B σ ι s.heap)(h:Jp prog w B ι s (.tup xs) σ Q)(r:VsR s.heap ι xs vs.toList):
 Q (.ref s.heap.objs.size) {s with heap:=s.heap.push (G4 vs n),toks:=t}:=by
 refine h ι _ _ (Ext.grown R (G2 _ _)) (.tup (Qv _ rfl) ?_);exact r.mono (fun a vs n e=>G2 _ _ _ _ e) (Q3 _)
theorem Jp.list{xs:List V}{vs:Array Value}{n t:Nat}{Q:Value→Shared→Prop}(R:Rel prog w B σ ι s.heap)(h:Jp prog w B ι s (.loc σ.length) (σ++[.list xs]) Q)(r:VsR s.heap ι xs vs.toList):
 Q (.ref s.heap.objs.size) {s with heap:=s.heap.push (J1 vs n),toks:=t}:=by
 refine h (ι++[s.heap.objs.size]) _ _ (Ext.push R (U3 _) (G2 _ _) ?_) (.loc (by rw[←R.len];simp));exact⟨vs,n,Qv _ rfl,r.mono (fun a vs n e=>G2 _ _ _ _ e) ⟨_,rfl⟩⟩
theorem noFill_tuple_mul:fillsNumberSlot (.type "tuple") "mul" =pure false:=
 PySem.fillsNumberSlot_seq (id:= "tuple.__mul__") (r:=some (.builtin "tuple.__rmul__")) F.slot_tuple_mul.lookup (by decide+kernel) F.slot_tuple_rmul.lookup (by decide+kernel)
theorem repeat_tuple:seqRepeat? (.type "tuple")=pure (some (.builtin "tuple.__mul__")):=by
 unfold seqRepeat?;rw[PySem.seqSlot_of (T:= "tuple") (name:= "__mul__") (id:= "tuple.__mul__") F.slot_tuple_mul.lookup (by decide+kernel),PySem.seqSlot_of (T:= "tuple") (name:= "__rmul__") (id:= "tuple.__rmul__") F.slot_tuple_rmul.lookup (by decide+kernel)];rfl
theorem int_rmul_tup(a:Int)(t:Tok)(l:Addr)(items:Array Value)(n:Nat):
 Meets (Builtin.«int.__rmul__» ⟨[.int a t,.ref l],[]⟩) (fun _ R s=>s.heap.get? l=some (G4 items n)∧R (.ok (.ret Value.notImplemented)) s):=
 .of_wp fun prog w A R s h=>by obtain⟨hp,g,d,tk,os⟩:=s;obtain⟨hl,h⟩:=h;unfold G4 at hl;wp_walk;exact⟨_,rfl,h⟩
theorem tuple_mul_two(l:Addr)(x:Value)(n:Nat)(u:Tok):
 Meets (Builtin.«tuple.__mul__» ⟨[.ref l,.int 2 u],[]⟩) (fun _ R s=>s.heap.get? l=some (G4 #[x] n)∧R (.ok (.ret (Value.ref s.heap.objs.size))) {s with heap:=s.heap.push (G4 #[x,x] 0)}):=
 .of_wp fun prog w A R s h=>by
  obtain⟨hp,g,d,tk,os⟩:=s;obtain⟨hl,h⟩:=h;unfold G4 at hl
  wp_walk using AutoSeq1.wpAny_loadPart' hl
  exact⟨_,rfl,h⟩
theorem pylong(hb:Bs prog B)(R:Rel prog w B σ ι s.heap)(rm:Yj A k):PylongRoom (model prog w) A s:=by
 obtain⟨env,l,h1,h2,h3,h4,h5⟩:=rm.fr;have hd:=rm.d;refine z13 hb.low fun H hH hs hl=>?_;exact PylongRoom.of (hl.keeps fun a o e=>R.base a o (hH a o e)) (by unfold Builtin.pylongFrames;exact Jl (G6 _ _) 1 (.add (.var 0) (.num 100)) (.num 1000) [Ge 1 (.add (.add (.var 0) (.var 1)) (.num 100)) (.num 1000)] rfl hd) (SeerAt.of (hs.keeps fun a o e=>R.base a o (hH a o e)) hb.tree h1 h2 h3 h4 h5)
theorem pow_bits{i j:Int}(hj:0≤j∧j<100000∧i.natAbs<100):(Builtin.Int.intBits i:Int)*j≤2^27:=by
 have hb:Builtin.Int.intBits i≤7:=by
  unfold Builtin.Int.intBits;split
  ·exact Gh (.leaf 0) 1 (.num 0) (.num 7) [] rfl
  ·rename_i hi0;have h0:i.natAbs≠0:=by simpa using hi0
   have:=(Nat.log2_lt (n:=i.natAbs) (k:=7) h0).mpr (by exact Jl (.leaf _) 1 (.var 0) (.num 128) [Ge 1 (.var 0) (.num 100)] rfl hj.2.2);exact Gh (.leaf _) 1 (.add (.var 0) (.num 1)) (.num 7) [Ge 1 (.var 0) (.num 7)] rfl this
 have h3:(Builtin.Int.intBits i:Int)≤7:=by exact_mod_cast hb
 calc (Builtin.Int.intBits i:Int)*j≤7*j:=Int.mul_le_mul_of_nonneg_right h3 hj.1
  _≤2^27:=by lia
theorem addTup{l r:List V}{a b:Value}{Q:Value→Shared→Prop}(R:Rel prog w B σ ι s.heap)(hsz:l.length+r.length<lim)(hx:VR s.heap ι (.tup l) a)(hy:VR s.heap ι (.tup r) b)(h:Jp prog w B ι s (.tup (l++r)) σ Q):wpAny (model prog w) A (binaryOp .Add a b) Q E s:=by
 obtain⟨a1,vs1,n1,rfl,e1,q1⟩:=hx.tup_ref;obtain⟨a2,vs2,n2,rfl,e2,q2⟩:=hy.tup_ref;have hl1:l.length=vs1.size:=by rw[q1.length,Array.length_toList]
 have hl2:r.length=vs2.size:=by rw[q2.length,Array.length_toList]
 by_cases hv:vs1.isEmpty=true
 ·have:l=[]:=List.eq_nil_of_length_eq_zero (hl1.trans (by simpa using hv));subst this;exact concat_meets ⟨_,e1,rfl⟩ ⟨_,e2,rfl⟩ noFill_tuple_add seq_tuple_add PySem.F.slot_tuple_add PySem.F.entry_tuple_add (PySem.F.args_tuple_add_2 _ _)
   (tuple_addW0 a1 a2 vs1 vs2 n1 n2 _ _ _ _ hv) ⟨e1,e2,h.here R hy⟩
 ·by_cases hw:vs2.isEmpty=true
  ·have:r=[]:=List.eq_nil_of_length_eq_zero (hl2.trans (by simpa using hw));subst this;rw[Qp]at h;exact concat_meets ⟨_,e1,rfl⟩ ⟨_,e2,rfl⟩ noFill_tuple_add seq_tuple_add PySem.F.slot_tuple_add PySem.F.entry_tuple_add (PySem.F.args_tuple_add_2 _ _)
    (tuple_addW1 a1 a2 vs1 vs2 n1 n2 _ _ _ _ hv hw) ⟨e1,e2,h.here R hx⟩
  ·exact concat_meets ⟨_,e1,rfl⟩ ⟨_,e2,rfl⟩ noFill_tuple_add seq_tuple_add PySem.F.slot_tuple_add PySem.F.entry_tuple_add (PySem.F.args_tuple_add_2 _ _)
    (tuple_addW2 a1 a2 vs1 vs2 n1 n2 _ _ _ _ hv hw (by rw[sizeLine_eq];unfold lim at hsz;exact Gh (lctx4 _ _ _ _) 1 (.add (.var 0) (.var 1)) (.num 16777216) [Ge 1 (.add (.var 2) (.var 3)) (.num 100000),Gp 1 (.var 0) (.var 2),Gp 1 (.var 1) (.var 3)] rfl hsz (Eq.symm hl1) (Eq.symm hl2))) ⟨e1,e2,h.tup (n:=0) (t:=s.toks) R (by rw[Array.toList_append];exact q1.append q2)⟩
theorem mulTup{x:V}{a b:Value}{Q:Value→Shared→Prop}(R:Rel prog w B σ ι s.heap)(hx:VR s.heap ι (.tup [x]) a)(hy:VR s.heap ι (.int 2) b)(h:Jp prog w B ι s (.tup [x,x]) σ Q):wpAny (model prog w) A (binaryOp .Mult a b) Q E s:=by
 refine VR.tupE hx fun a1 vs1 n1 e1 q1 _=>?_;refine VR.intE hy fun t'=>?_;obtain⟨vl⟩:=vs1;have q1:VsR s.heap ι [x] vl:=q1;cases q1 with
 | @cons _ xv _ vs' a b=>
  cases b;exact wpAny_binaryOp_repeat_ref (T:= "tuple") (U:= "int") (by decide) ⟨_,e1,rfl⟩ (fun s'=>typeIs_int s' 2 t') noFill_tuple_mul F.fills_int_mul F.slot_int_rmul repeat_tuple F.slot_int_index.lookup
   (call_meets F.slot_int_rmul (typeIs_int s 2 t') F.entry_int_rmul (F.args_int_rmul_2 _ _) (int_rmul_tup 2 t' a1 _ n1)
    ⟨e1,rfl,⟨_,e1,rfl⟩,call_meets F.slot_tuple_mul ⟨_,e1,rfl⟩ F.entry_tuple_mul (F.args_tuple_mul_2 _ _)
     (tuple_mul_two a1 xv n1 t') ⟨e1,h.tup (n:=0) (t:=s.toks) R (.cons a (.cons a .nil))⟩⟩)
theorem addLst{m n:Nat}{xs ys:List V}{a b:Value}{Q:Value→Shared→Prop}(R:Rel prog w B σ ι s.heap)(h1:σ[m]?=some (.list xs))(h2:σ[n]?=some (.list ys))(hsz:xs.length+ys.length<lim)(hx:VR s.heap ι (.loc m) a)(hy:VR s.heap ι (.loc n) b)(h:Jp prog w B ι s (.loc σ.length) (σ++[.list (xs++ys)]) Q):wpAny (model prog w) A (binaryOp .Add a b) Q E s:=by
 refine VR.locE hx fun a1 ea1=>?_;refine VR.locE hy fun a2 ea2=>?_;refine z22 (R.obs m _ a1 h1 ea1) fun vs1 n1 e1 q1=>?_;refine z22 (R.obs n _ a2 h2 ea2) fun vs2 n2 e2 q2=>?_;have hl1:xs.length=vs1.size:=by rw[q1.length,Array.length_toList]
 have hl2:ys.length=vs2.size:=by rw[q2.length,Array.length_toList]
 exact concat_meets ⟨_,e1,rfl⟩ ⟨_,e2,rfl⟩ noFill_list_add seq_list_add F.slot_list_add F.entry_list_add (F.args_list_add_2 _ _) (AutoSeq1.list___add___list_list_0 a1 vs1 n1 a2 vs2 n2 (by rw[sizeLine_eq];unfold lim at hsz;exact Gh (lctx4 _ _ _ _) 1 (.add (.var 0) (.var 1)) (.num 16777216) [Ge 1 (.add (.var 2) (.var 3)) (.num 100000),Gp 1 (.var 0) (.var 2),Gp 1 (.var 1) (.var 3)] rfl hsz (Eq.symm hl1) (Eq.symm hl2)))
  ⟨e1,e2,h.list (n:=0) (t:=s.toks) R (by rw[Array.toList_append];exact q1.append q2)⟩
theorem VR.ofI{h:Heap}{x:V}{i:Int}{v:Value}(e:x.asI=some i)(r:VR h ι x v):VR h ι (.int i) v:=Yd e▸r
@[elab_as_elim] theorem ints2E {α:Type} {x y:V} {f:Int→Int→Option α} {r:α} {P:Value→Value→Prop} {a b:Value} (e:(x.asI.bind fun a=>y.asI.bind fun b=>f a b)=some r) (hx:VR s.heap ι x a) (hy:VR s.heap ι y b)
 (k:∀i j t t',f i j=some r→P (.int i t) (.int j t')):P a b:=
 bnE e fun i hi e=>bnE e fun j hj e=>VR.intE (VR.ofI hi hx) fun t=>VR.intE (VR.ofI hj hy) fun t'=>k i j t t' e
theorem binop_snd{op:BOp}{x y v:V}{σ':Sto}{a b:Value}{Q:Value→Shared→Prop}(hbs:Bs prog B)(R:Rel prog w B σ ι s.heap)(rm:Yj A k)(e:Jx op x y σ=some (v,σ'))(hx:VR s.heap ι x a)(hy:VR s.heap ι y b)
 (h:Jp prog w B ι s v σ' Q):wpAny (model prog w) A (binaryOp (bopOf op) a b) Q E s:=by
 cases op with
 |add=>
  cases x with
  |int i=>
   refine bnE e fun j hj e=>VR.intE hx fun t=>VR.intE (VR.ofI hj hy) fun t'=>?_;exact PyProof.Rows.add_int ((h.si e).tok R _ (.int _ _))
  |tup l=>exact bnE e fun r hr e=>zA2 (Gz e) fun hsz e=>addTup R hsz hx (Yu hr▸hy) (h.si e)
  |loc m=>exact bnE e fun n hn e=>bnE e fun xs h1 e=>bnE e fun ys h2 e=>zA2 (Gz e) fun hsz e=>addLst R (asLst_inv h1) (asLst_inv h2) hsz hx (asL_inv hn▸hy) (h.si e)
  |_=>exact nomatch e
 |sub=>exact ints2E e hx hy fun i j t t' e=>PyProof.Rows.sub_int ((h.si e).tok R _ (.int _ _))
 |mul=>
  cases x with
  |int i=>
   refine bnE e fun j hj e=>VR.intE hx fun t=>VR.intE (VR.ofI hj hy) fun t'=>zA2 (Gz e) fun hf e=>?_;exact PyProof.Rows.mul_int ((h.si e).tok R _ (.int _ _)) (fits_mul (Bool.and_eq_true_iff.mp hf).1 (Bool.and_eq_true_iff.mp hf).2)
  |tup l=>
   refine bnE e fun j hj e=>bnE e fun x hl e=>zA2 (Gz e) fun hj2 e=>?_;rw[Yd hj,hj2]at hy;exact mulTup R (one1_inv hl▸hx) hy (h.si e)
  |_=>exact nomatch e
 |fdiv=>exact ints2E e hx hy fun i j t t' e=>zA2 (ifn_inv e) fun hj e=>PyProof.Rows.floordiv_int hj ((h.si e).tok R _ (.int _ _)) (.inr (pylong hbs R rm))
 |mod=>exact ints2E e hx hy fun i j t t' e=>zA2 (ifn_inv e) fun hj e=>PyProof.Rows.mod_int' hj ((h.si e).tok R _ (.int _ _))
 |pow=>exact ints2E e hx hy fun i j t t' e=>zA2 (Gz e) fun hj e=>PyProof.Rows.pow_int hj.1 (pow_bits hj) ((h.si e).tok R _ (.int _ _))
theorem seqIndex_nat{j:Int}{n:Nat}(h0:0≤j)(h:j.toNat<n):seqIndex? j n=some j.toNat:=by
 unfold seqIndex?;have h1:¬j<0:=by lia
 have h2:j<(n:Int):=by lia
 simp only[h1,if_false];rw[if_pos (by simp[h0,h2])]
theorem subop_snd{x i v:V}{a b:Value}{value slice:PySem.Expr}{ops:List Value}{Q:Value→Shared→Prop}(hbs:Bs prog B)(R:Rel prog w B σ ι s.heap)(rm:Yj A k)(e:Jg x i σ=some v)(hx:VR s.heap ι x a)(hi:VR s.heap ι i b)
 (hs:subscripted slice false a b=operate ops (getItem a b)) (h:Jp prog w B ι s v σ Q):wpAny (model prog w) A (subscriptTail value slice a b) Q E s:=by
 cases i with
 |int j=>
  obtain⟨t,rfl⟩:=hi.int_inv;cases x with
  |tup l=>
   obtain⟨a1,vs1,n1,rfl,e1,q1⟩:=hx.tup_ref;refine zA2 (Gz (x:=l[j.toNat]?) e) fun hj e=>?_;refine z12 (q1.get _ _ e) fun u eu ru=>?_;rw[Array.getElem?_toList]at eu;have hlt:j.toNat<vs1.size:=(Array.getElem?_eq_some_iff.mp eu).1;exact tail_any (T:= "tuple") ⟨_,e1,rfl⟩ F.slot_tuple_getitem.lookup (P.getItem_tuple (n:=n1) e1 (by lia) hj.2 (k:=j.toNat) (seqIndex_nat hj.1 hlt) eu (h.here R ru)) hs
  |loc n=>
   obtain⟨a1,rfl,ea⟩:=hx.loc_ref;refine bnE e fun l hl e=>?_;refine zA2 (Gz e) fun hj e=>?_;refine z22 (R.obs n _ a1 (asLst_inv hl) ea) fun vs m ev q=>?_;refine z12 (q.get _ _ e) fun u eu ru=>?_;rw[Array.getElem?_toList]at eu;exact tail_any (Ga ev).typeIs F.slot_list_getitem.lookup (wpAny_getItem_list (Ga ev) hj.1 hj.2 eu (h.here R ru)) hs
  |_=>cases e
 |tup kk=>
  refine bnE e fun n hn e=>?_;obtain rfl:=asL_inv hn;refine bnE e fun es hl e=>?_;refine bnE e fun key hk ek=>?_;obtain rfl:=Ub hk;refine cps fun qG qK=>?_;obtain⟨a1,rfl,ea⟩:=hx.loc_ref;obtain⟨b1,vs,m,rfl,ev,q⟩:=hi.tup_ref;have hkey:(KK prog w).is s.heap key b1:=VR.isKey (k:=key) hi;have hrows:∃Qy,s.heap.DictOfH (KK prog w) a1 Qy∧J9 s.heap ι es Qy:=by
   rcases asRows_inv hl with hl|hl
   ·exact R.obs n _ a1 hl ea
   ·exact(R.obs n _ a1 hl ea).2
  refine z12 hrows fun Qy dd qq=>?_;refine qK ?_;rcases qq.atKey key with⟨h1,h2⟩|⟨x',p',h1,h2,rx⟩
  ·rw[h1]at ek;cases ek
  ·rw[h1]at ek;cases ek;exact tail_any dd.typeIs F.slot_dict_getitem.lookup (wpAny_getItem_heap (knd:=KK prog w) (by show A.in1.units<cLine;have:=rm.u;simp only;exact Jl (G6 _ _) 1 (.add (.var 0) (.num 1)) (.num 9900) [Ge 1 (.add (.add (.var 0) (.mulL 3 (.var 1))) (.num 100)) (.num 9900)] rfl this) hkey dd h2 (h.tok R _ rx)) hs
 |_=>cases e
theorem part_some{o:Option V}{v:Value}{len d a:Nat}(h:∀x,o=some x→VR s.heap ι x v)(hn:o=none→v=.none)(e:bnd len d o=some a):
 ∃p:Option Int,IsPart v p∧((p=none∧a=d)∨∃j:Nat,p=some (j:Int)∧a=min j len):=by
 cases o with
 |none=>rw[hn rfl];simp[bnd]at e;exact⟨none,.none,.inl ⟨rfl,e.symm⟩⟩
 |some x=>
  cases x with
  |int i=>
   refine VR.intE ((h _ rfl)) fun t=>?_;simp only[bnd]at e;split at e
   ·rename_i hi;simp only[Q1]at e;refine⟨some i,.int i t,.inr ⟨i.toNat,?_,e.symm⟩⟩;rw[Int.toNat_of_nonneg hi.1]
   ·cases e
  |_=>simp[bnd]at e
theorem slicePart_at{v:Value}{p:Option Int}{Q:Option Int→Shared→Prop}(hp:IsPart v p)(h:Q p s):wpAny (model prog w) A (Builtin.Slice.slicePartIndex v) Q E s:=by
 cases hp with
 |none=>exact Qu h
 |int i t=>
  unfold Builtin.Slice.slicePartIndex;rw[if_neg (show¬((Value.int i t==Value.none)=true)from Bool.false_ne_true)];refine Qt (wpAny_specialOf (T:= "int") (typeIs_int s i t) F.slot_int_index.lookup ?_);simp only[Option.isNone_some,Qq,if_false];exact Qt (wpAny_of_eq (a:=i) rfl (Qu h))
theorem sliceApplied_at{sl:Addr}{vl vu vs:Value}{lo hi st:Option Int}{n:Nat}{Q:Int×Int×Nat→Shared→Prop}(hs:s.heap.IsSliceOf sl vl vu vs)(pl:IsPart vl lo)(pu:IsPart vu hi)(ps:IsPart vs st)(h0:st.getD 1≠0)
 (h:Q ((Builtin.Slice.sliceAdjust lo hi (st.getD 1) n).1,st.getD 1,Builtin.Slice.slicePlaces (Builtin.Slice.sliceAdjust lo hi (st.getD 1) n).1 (Builtin.Slice.sliceAdjust lo hi (st.getD 1) n).2 (st.getD 1)) s):
 wpAny (model prog w) A (Builtin.Slice.sliceApplied (.ref sl) (pure (n:Int))) Q E s:=by
 refine z13 (id hs) fun os hos hcs hds=>?_;unfold Builtin.Slice.sliceApplied Builtin.Slice.sliceFields;refine Qt (Qt (wpAny_field hos hds (x:=vl) rfl (Qt (wpAny_field hos hds (x:=vu) rfl (Qt (wpAny_field hos hds (x:=vs) rfl (Qu ?_)))))));refine Qt (slicePart_at ps ?_);show wpAny _ _ (if(st.getD 1==0)=true then _ else _) _ _ s;rw[if_neg (by simpa using h0)];refine Qt (slicePart_at pl (Qt (slicePart_at pu (Qt (Qu ?_)))));exact Qu h
theorem adjust_nat(lo hi:Option Int)(n a b:Nat)(hlo:(lo=none∧a=0)∨∃j:Nat,lo=some (j:Int)∧a=min j n)(hhi:(hi=none∧b=n)∨∃j:Nat,hi=some (j:Int)∧b=min j n):
 Builtin.Slice.sliceAdjust lo hi 1 (n:Int)=((a:Int),(b:Int)):=by
 unfold Builtin.Slice.sliceAdjust;have h1:¬((1:Int)<0):=by lia
 simp only[h1,if_false];rcases hlo with⟨rfl,rfl⟩|⟨j,rfl,rfl⟩<;>rcases hhi with⟨rfl,rfl⟩|⟨j',rfl,rfl⟩
 ·rfl
 ·have:¬((j':Int)<0):=by lia
  simp only[this,if_false];congr 1;lia
 ·have:¬((j:Int)<0):=by lia
  simp only[this,if_false];congr 1;lia
 ·have h2:¬((j:Int)<0):=by lia
  have h3:¬((j':Int)<0):=by lia
  simp only[h2,h3,if_false];congr 1<;>lia
theorem places_nat(a b:Nat):Builtin.Slice.slicePlaces (a:Int) (b:Int) 1=b-a:=by
 unfold Builtin.Slice.slicePlaces;have h1:(1:Int)>0:=by lia
 simp only[h1,if_true,Int.ediv_one];split<;>lia
theorem pick_nat(xs:Array Value)(a b:Nat)(hb:b≤xs.size):((List.range (b-a)).filterMap fun(k:Nat)=>xs[((a:Int)+(k:Int)*1).toNat]?).toArray=((xs.toList.take b).drop a).toArray:=by
 have e:(fun(k:Nat)=>xs[((a:Int)+(k:Int)*1).toNat]?)=fun k=>xs[a+k]?:=by
  funext k;have:((a:Int)+(k:Int)*1).toNat=a+k:=by lia
  rw[this]
 rw[e];have:=pick_run xs a (b-a);rw[List.filterMap_map]at this;have e2:((fun x=>xs[x]?)∘fun x=>a+x)=fun k=>xs[a+k]?:=rfl;rw[e2]at this;rw[this,List.drop_take]
theorem adjust_rev(n:Nat):Builtin.Slice.sliceAdjust none none (-1) (n:Int)=((n:Int)-1,-1):=by
 unfold Builtin.Slice.sliceAdjust;have h1:((-1:Int)<0):=by lia
 simp only[h1,if_true]
theorem places_rev(n:Nat):Builtin.Slice.slicePlaces ((n:Int)-1) (-1) (-1)=n:=by
 unfold Builtin.Slice.slicePlaces;have h1:¬((-1:Int)>0):=by lia
 simp only[h1,if_false];split
 ·have: -(-1:Int)=1:=rfl;rw[this,Int.ediv_one];lia
 ·lia
theorem pick_rev(xs:Array Value):((List.range xs.size).filterMap fun(k:Nat)=>xs[(((xs.size:Int)-1)+(k:Int)*(-1)).toNat]?).toArray=xs.toList.reverse.toArray:=by
 congr 1;apply List.ext_getElem?;intro i;have key:∀m,m≤xs.size→((List.range m).filterMap fun(k:Nat)=>xs[(((xs.size:Int)-1)+(k:Int)*(-1)).toNat]?)=xs.toList.reverse.take m:=by
  intro m;induction m with
  |zero=>intro _;rfl
  |succ m ih=>
   intro hm;rw[List.range_succ,List.filterMap_append,ih (by exact Gh (G6 _ _) 1 (.var 0) (.var 1) [Gb 1 (.add (.var 0) (.num 1)) (.var 1)] rfl hm),List.take_add_one];congr 1;have h1:(((xs.size:Int)-1)+(m:Int)*(-1)).toNat=xs.size-1-m:=by lia
   have h2:xs.size-1-m<xs.size:=by lia
   simp only[List.filterMap_cons,List.filterMap_nil,h1,Array.getElem?_eq_getElem h2];rw[List.getElem?_reverse (by simp;exact Jl (G6 _ _) 1 (.var 0) (.var 1) [Gb 1 (.add (.var 0) (.num 1)) (.var 1)] rfl hm)];simp[h2]
 rw[key xs.size (Qs _),List.take_of_length_le (by simp)]
theorem getItem_tuple_slice{t sl:Addr}{items:Array Value}{n a b:Nat}{vl vu vs:Value}{lo hi:Option Int}{Q:Value→Shared→Prop}(ht:s.heap.get? t=some (G4 items n))(hs:s.heap.IsSliceOf sl vl vu vs)(pl:IsPart vl lo)(pu:IsPart vu hi)(ps:vs=.none)
 (hlo:(lo=none∧a=0)∨∃j:Nat,lo=some (j:Int)∧a=min j items.size) (hhi:(hi=none∧b=items.size)∨∃j:Nat,hi=some (j:Int)∧b=min j items.size)
 (h0:a=0→b=items.size→Q (.ref t) s)
 (h:Q (.ref s.heap.objs.size) {s with heap:=s.heap.push (G4 ((items.toList.take b).drop a).toArray 0)})
 (hsz:items.size≤sizeLine):wpAny (model prog w) A (getItem (.ref t) (.ref sl)) Q E s:=by
 have hdrop:sizeOk (.seq ((items.toList.take b).drop a).toArray):=by
  show((items.toList.take b).drop a).toArray.size≤sizeLine;rw[List.size_toArray,List.length_drop,List.length_take,Array.length_toList];exact Nat.le_trans (Nat.sub_le _ _) (Nat.le_trans (Nat.min_le_right _ _) hsz)
 have hT:s.heap.IsTuple t items:=J4 ht;refine z13 (id hs) fun os hos hcs hds=>?_;have hTs:s.TypeIs (.ref sl) "slice" :=⟨os,hos,hcs⟩
 have hbn:b≤items.size:=hhi.elim (fun h=>h.2▸Qs _) fun h=>z12 h fun j _ e=>e▸Nat.min_le_right _ _;unfold getItem
 try with_reducible refine wpAny_holding ?_
 first|refine Qt (Qu ?_)|skip
 refine Qt (wpAny_sequenceKey (T:= "tuple") ⟨_,ht,rfl⟩ (by decide) ?_);refine Qt (wpAny_callSpecial?_slot (name:=Str.ofString "__getitem__") (T:= "tuple") ⟨_,ht,rfl⟩ F.slot_tuple_getitem
  (wpAny_call_entry F.slot_tuple_getitem ⟨_,ht,rfl⟩ F.entry_tuple_getitem ?_ (F.args_tuple_getitem_2 _ _)))
 show wpAny _ _ (Builtin.Tuple.tupleItemsOf (.ref t) >>= _) _ _ s;refine Qt (wpAny_tupleItemsOf ht rfl ?_);refine Qt (wpAny_typeOf hTs ?_);rw[if_pos (by decide)];subst ps;refine Qt (sliceApplied_at (st:=none) hs pl pu .none (by decide) ?_);simp only[Option.getD_none];rw[adjust_nat lo hi items.size a b hlo hhi];simp only;rw[places_nat];by_cases hw:((a:Int)==0&&(1:Int)==1&&(b-a)==items.size)=true
 ·rw[if_pos hw];have hw:=Bool.and_eq_true_iff.mp hw;have ha:a=0:=Int.natCast_eq_zero.mp (beq_iff_eq.mp (Bool.and_eq_true_iff.mp hw.1).1);have hb:b=items.size:=(congrArg (b-·) ha).symm.trans (beq_iff_eq.mp hw.2);have hex:∀{E':Value→Shared→Prop} {Q':Bool→Shared→Prop},Q' true s→wpAny (model prog w) A.in1 (Builtin.Tuple.tupleIsExact (.ref t)) Q' E' s:=fun hq=>by
   unfold Builtin.Tuple.tupleIsExact;exact Qt (wpAny_typeOf (T:= "tuple") ⟨_,ht,rfl⟩ (Qu hq))
  refine Qt (hex ?_);rw[if_pos rfl];refine Qt (wpAny_rule ?_)
  first
   |exact Qu ⟨_,rfl,Qu (h0 ha hb)⟩
   |exact Qt (Qu (Qu ⟨_,rfl,Qu (h0 ha hb)⟩))
 ·rw[if_neg hw,pick_nat items a b hbn]
  first
   |exact Qt (m:=Builtin.Tuple.tupleExact _) (wpAny_newObj_type (Qu ⟨_,rfl,Qu h⟩) hdrop)
   |exact Qt (m:=Builtin.Tuple.tupleExact _) (wpAny_newObj_type (Qt (Qu (Qu ⟨_,rfl,Qu h⟩))) hdrop)
   |exact Qt (Qt (m:=Builtin.Tuple.tupleExact _) (wpAny_newObj_type (Qu (Qu ⟨_,rfl,Qu h⟩)) hdrop))
   |exact Qt (Qt (m:=Builtin.Tuple.tupleExact _) (wpAny_newObj_type (Qu ⟨_,rfl,Qu h⟩) hdrop))
theorem getItem_tuple_rev{t sl:Addr}{items:Array Value}{n:Nat}{u:Tok}{Q:Value→Shared→Prop}(ht:s.heap.get? t=some (G4 items n))(hs:s.heap.IsSliceOf sl .none .none (.int (-1) u))
 (h:Q (.ref s.heap.objs.size) {s with heap:=s.heap.push (G4 items.toList.reverse.toArray 0)})
 (hsz:items.size≤sizeLine):wpAny (model prog w) A (getItem (.ref t) (.ref sl)) Q E s:=by
 have hdrop:sizeOk (.seq items.toList.reverse.toArray):=by
  show items.toList.reverse.toArray.size≤sizeLine;simpa using hsz
 refine z13 (id hs) fun os hos hcs hds=>?_;have hTs:s.TypeIs (.ref sl) "slice" :=⟨os,hos,hcs⟩
 unfold getItem
 try with_reducible refine wpAny_holding ?_
 first|refine Qt (Qu ?_)|skip
 refine Qt (wpAny_sequenceKey (T:= "tuple") ⟨_,ht,rfl⟩ (by decide) ?_);refine Qt (wpAny_callSpecial?_slot (name:=Str.ofString "__getitem__") (T:= "tuple") ⟨_,ht,rfl⟩ F.slot_tuple_getitem
  (wpAny_call_entry F.slot_tuple_getitem ⟨_,ht,rfl⟩ F.entry_tuple_getitem ?_ (F.args_tuple_getitem_2 _ _)))
 show wpAny _ _ (Builtin.Tuple.tupleItemsOf (.ref t) >>= _) _ _ s;refine Qt (wpAny_tupleItemsOf ht rfl ?_);refine Qt (wpAny_typeOf hTs ?_);rw[if_pos (by decide)];refine Qt (sliceApplied_at (st:=some (-1)) hs .none .none (.int _ _) (by decide) ?_);simp only[Option.getD_some];rw[adjust_rev];simp only;rw[places_rev];have hno:¬((((items.size:Int)-1)==0&&(-1:Int)==1&&items.size==items.size)=true):=by
  have:((-1:Int)==1)=false:=by decide
  rw[this];simp
 rw[if_neg hno,pick_rev items]
 first
  |exact Qt (m:=Builtin.Tuple.tupleExact _) (wpAny_newObj_type (Qu ⟨_,rfl,Qu h⟩) hdrop)
  |exact Qt (m:=Builtin.Tuple.tupleExact _) (wpAny_newObj_type (Qt (Qu (Qu ⟨_,rfl,Qu h⟩))) hdrop)
  |exact Qt (Qt (m:=Builtin.Tuple.tupleExact _) (wpAny_newObj_type (Qu (Qu ⟨_,rfl,Qu h⟩)) hdrop))
  |exact Qt (Qt (m:=Builtin.Tuple.tupleExact _) (wpAny_newObj_type (Qu ⟨_,rfl,Qu h⟩) hdrop))
theorem J6{vs:Array Value}{l:List V}(q:VsR s.heap ι l vs.toList):vs.size=l.length:=by rw[q.length,Array.length_toList]
theorem sliceop_snd{x v:V}{a:Value}{σ':Sto}{lo hi:Option V}{vl vu:Value}{sl:Addr}{value slice:PySem.Expr}{ops:List Value}{Q:Value→Shared→Prop}(R:Rel prog w B σ ι s.heap)
 (e:Jc x lo hi σ=some (v,σ')) (hx:VR s.heap ι x a) (hsl:s.heap.IsSliceOf sl vl vu .none)
 (hl:∀y,lo=some y→VR s.heap ι y vl) (hl':lo=none→vl=.none) (hh:∀y,hi=some y→VR s.heap ι y vu) (hh':hi=none→vu=.none)
 (hs:subscripted slice false a (.ref sl)=operate ops (getItem a (.ref sl))) (h:Jp prog w B ι s v σ' Q):wpAny (model prog w) A (subscriptTail value slice a (.ref sl)) Q E s:=by
 cases x with
 |tup l=>
  obtain⟨a1,vs1,n1,rfl,e1,q1⟩:=hx.tup_ref;simp only[Jc]at e;split at e
  case isFalse=>cases e
  rename_i hlim;split at e
  ·rename_i p q hp hq;simp only[Q1,Prod.mk.injEq]at e;obtain⟨rfl,rfl⟩:=e;have hsz1:=J6 q1;refine z12 (part_some hl hl' hp) fun lo' pl hlo=>?_;refine z12 (part_some hh hh' hq) fun hi' pu hhi=>?_;refine tail_any (T:= "tuple") ⟨_,e1,rfl⟩ F.slot_tuple_getitem.lookup ?_ hs;refine getItem_tuple_slice (a:=p) (b:=q) e1 hsl pl pu rfl (by rw[hsz1];exact hlo) (by rw[hsz1];exact hhi) (fun h0 h1=>?_) ?_ (by rw[sizeLine_eq];unfold lim at hlim;exact Gh (G6 _ _) 1 (.var 0) (.num 16777216) [Ge 1 (.var 1) (.num 100000),Gp 1 (.var 0) (.var 1)] rfl hlim hsz1)
   ·subst h0;rw[h1,hsz1,List.drop_zero,List.take_length]at h;exact h.here R hx
   ·exact h.tup (n:=0) (t:=s.toks) R (by simpa using(q1.take q).drop p)
  ·cases e
 |loc n=>
  obtain⟨a1,rfl,ea⟩:=hx.loc_ref;have key:∀l,(∃vs m,s.heap.get? a1=some (J1 vs m)∧VsR s.heap ι l vs.toList)→l.length<lim→(match bnd l.length 0 lo,bnd l.length l.length hi with
   |some a,some b=>some (V.loc σ.length,σ++[Ob.list ((l.take b).drop a)])
   |_,_=>none)=some (v,σ')→wpAny (model prog w) A (subscriptTail value slice (.ref a1) (.ref sl)) Q E s:=by
   rintro l ⟨vs,m,ev,q1⟩ hlim e;split at e
   ·rename_i p q hp hq;simp only[Q1,Prod.mk.injEq]at e;obtain⟨rfl,rfl⟩:=e;have hsz1:=J6 q1;refine z12 (part_some hl hl' hp) fun lo' pl hlo=>?_;refine z12 (part_some hh hh' hq) fun hi' pu hhi=>?_;refine tail_any (Ga ev).typeIs F.slot_list_getitem.lookup (wpAny_getItem_list_slice (Ga ev) hsl pl pu .none (by simp) ?_ (by rw[sizeLine_eq];unfold lim at hlim;exact Gh (G6 _ _) 1 (.var 0) (.num 16777216) [Ge 1 (.var 1) (.num 100000),Gp 1 (.var 0) (.var 1)] rfl hlim hsz1)) hs;have hpick:slicePick vs lo' hi' none=((vs.toList.take q).drop p).toArray:=by
     rw[slicePick_plain,List.drop_take];have h1:lo'.elim 0 (clipAt vs.size)=p:=by
      rcases hlo with⟨rfl,rfl⟩|⟨j,rfl,rfl⟩
      ·rfl
      ·simp only[Option.elim,clipAt_nat,hsz1]
     have h2:hi'.elim vs.size (clipAt vs.size)=q:=by
      rcases hhi with⟨rfl,rfl⟩|⟨j,rfl,rfl⟩
      ·simpa using hsz1
      ·simp only[Option.elim,clipAt_nat,hsz1]
     rw[h1,h2]
    rw[hpick];exact h.list (n:=0) (t:=s.toks) R (by simpa using(q1.take q).drop p)
   ·cases e
  simp only[Jc]at e;split at e
  ·rename_i l hl0;split at e
   ·rename_i hlim;exact key l (R.obs n _ a1 hl0 ea) hlim e
   ·cases e
  ·rename_i l hl0;split at e
   ·rename_i hlim;exact key l (R.obs n _ a1 hl0 ea) hlim e
   ·cases e
  ·cases e
 |_=>simp[Jc]at e
theorem set_exact{vs:Array Value}{n j:Nat}{v:Value}:∃n',Obj.mapSeq (·.setIfInBounds j v) (J1 vs n)=J1 (vs.setIfInBounds j v) n':=⟨_,rfl⟩
theorem setItem_list_at{l:Addr}{items:Array Value}{n:Nat}{i:Int}{t:Tok}{v:Value}{Q:Unit→Shared→Prop}(hl:s.heap.get? l=some (J1 items n))
 (h0:0≤i) (hfit:i<2^63) (hn:i.toNat<items.size)
 (hQ:∀h' n',h'.get? l=some (J1 (items.setIfInBounds i.toNat v) n')→Heap.SameBut l s.heap h'→Q () {s with heap:=h'}):
 wpAny (model prog w) A (setItem (.ref l) (.int i t) v) Q E s:=by
 have hT:s.TypeIs (.ref l) "list" :=⟨_,hl,rfl⟩
 unfold setItem
 try with_reducible refine wpAny_holding ?_
 first|refine Qt (Qu ?_)|skip
 refine Qt (wpAny_sequenceKey hT (by decide) ?_);refine Qt (wpAny_callSpecial?_slot (name:=Str.ofString "__setitem__") hT F.slot_list_setitem
  (wpAny_call_entry F.slot_list_setitem hT F.entry_list_setitem ?_ (F.args_list_setitem_3 _ _ _)))
 show wpAny _ _ (Builtin.List.listSubscript? (.int i t) >>= _) _ _ s;refine Qt (wpAny_listSubscript_int (fitsIndex_of h0 hfit) ?_);clear hfit;obtain⟨j,rfl⟩:=Int.eq_ofNat_of_zero_le h0;have hj:j<items.size:=by lia
 have hx':items[j]?=some items[j]:=Array.getElem?_eq_getElem hj;show wpAny _ _ ((seqItemAt l j >>= fun r=>pure (r.map (j,·))) >>= _) _ _ s;refine Qt (Qt (wpAny_seqItemAt hl rfl (Qu ?_)));rw[hx'];show wpAny _ _ (setSeqItemAt l j v >>= _) _ _ s;refine z11 (set_exact (vs:=items) (n:=n) (j:=j) (v:=v)) fun n' hd'=>?_;have hfin:(s.heap.update l (Obj.mapSeq (·.setIfInBounds j v))).get? l=some (J1 (items.setIfInBounds j v) n'):=by
  rw[Heap.get?_update_self _ hl (by rw[hd'];rfl),hd']
 refine Qt (wpAny_setSeqItemAt hl rfl ?_)
 first
  |exact Qt (Qu (Qu ⟨.none,rfl,Qu (hQ _ _ hfin (Heap.SameBut.update ..))⟩))
  |exact Qu ⟨.none,rfl,Qu (hQ _ _ hfin (Heap.SameBut.update ..))⟩
theorem J9.put{es:List (List Int×V)}{Qy:List (List Int×Addr×Value)}{h:Heap}{x:V}{u:Value}{key:List Int}{b:Addr}(r:J9 h ι es Qy)(hn:(Qy.map (·.1)).Nodup)(hk:VR h ι (keyV key) (.ref b))(hx:VR h ι x u):
 J9 h ι (dput es key x) (storedH Qy key b u):=by
 unfold storedH;induction r with
 |nil=>simp[dput,PySem.atKey];exact .cons hk hx .nil
 | @cons k' y a v es' rows' q hy rr ih=>
  simp only[Q7,List.nodup_cons]at hn;by_cases hkk:k'=key
  ·subst hkk;have h1:(PySem.atKey ((k',a,v)::rows') k').isSome=true:=by simp[PySem.atKey]
   rw[if_pos h1,Q7,map_putAt_of_not_mem _ _ _ hn.1];simp only[dput,if_true,putAt];exact .cons q hx rr
  ·have h2:PySem.atKey ((k',a,v)::rows') key=PySem.atKey rows' key:=by simp[PySem.atKey,hkk]
   have h1:=ih hn.2;rw[h2];simp only[dput,hkk,if_false];by_cases hs:(PySem.atKey rows' key).isSome=true
   ·rw[if_pos hs]at h1⊢;rw[Q7];have:putAt key u (k',a,v)=(k',a,v):=by simp[putAt,hkk]
    rw[this];exact .cons q hy h1
   ·rw[if_neg hs]at h1⊢;exact .cons q hy h1
theorem DictOfH.nodup{h:Heap}{a:Addr}{Qy:List (List Int×Addr×Value)}(d:h.DictOfH (KK prog w) a Qy):(Qy.map (·.1)).Nodup:=by obtain⟨_,_,_,_,_,_,_,_,hn⟩:=d;exact hn
theorem DictOfH.nt{h:Heap}{a:Addr}{Qy:List (List Int×Addr×Value)}(d:h.DictOfH (KK prog w) a Qy){vs:Array Value}{n:Nat}:h.get? a≠some (G4 vs n):=fun e=>(nt_dict d).ne e
theorem VR.upd{h h':Heap}{a:Addr}{x:V}{u:Value}(r:VR h ι x u)(hs:Heap.SameBut a h h')(hnt:∀vs n,h.get? a≠some (G4 vs n)):VR h' ι x u:=
 r.mono (fun c vs m ec=>(hs.2 c fun e=>hnt vs m (e▸ec)).trans ec) (Q3 _)
theorem VsR.upd{h h':Heap}{a:Addr}{x:List V}{u:List Value}(r:VsR h ι x u)(hs:Heap.SameBut a h h')(hnt:∀vs n,h.get? a≠some (G4 vs n)):VsR h' ι x u:=
 r.mono (fun c vs m ec=>(hs.2 c fun e=>hnt vs m (e▸ec)).trans ec) (Q3 _)
theorem J9.upd{h h':Heap}{a:Addr}{x:List (List Int×V)}{u:List (List Int×Addr×Value)}(r:J9 h ι x u)(hs:Heap.SameBut a h h')(hnt:∀vs n,h.get? a≠some (G4 vs n)):J9 h' ι x u:=
 r.mono (fun c vs m ec=>(hs.2 c fun e=>hnt vs m (e▸ec)).trans ec) (Q3 _)
theorem lobj_nt{h:Heap}{a:Addr}{us:Array Value}{k:Nat}(e:h.get? a=some (J1 us k)):∀vs n,h.get? a≠some (G4 vs n):=by
 intro vs n e';rw[e]at e';exact Yt (Option.some.inj e')
theorem setop_snd{x i v:V}{σ':Sto}{a b c:Value}{Q:Unit→Shared→Prop}(R:Rel prog w B σ ι s.heap)(rm:Yj A k)(e:Zm x i v σ=some σ')(hx:VR s.heap ι x a)(hi:VR s.heap ι i b)(hv:VR s.heap ι v c)
 (h:∀s',Ext (prog:=prog) (w:=w) B ι s σ' ι s'→Q () s'):wpAny (model prog w) A (setItem a b c) Q E s:=by
 have hu:=rm.u;cases x with
 |loc n=>
  refine VR.locE hx fun a1 ea=>?_;cases i with
  |tup kk=>
   simp only[Zm]at e;split at e
   ·rename_i es key hl hk;obtain rfl:=Ub hk;split at e
    ·rename_i hlim;simp only[Q1]at e;subst e;refine cps fun qG qK=>?_;refine z12 (R.obs n _ a1 hl ea) fun Qy dd qq=>?_;obtain⟨b1,vs,m,rfl,ev,q⟩:=hi.tup_ref;refine qK ?_;have hkey:(KK prog w).is s.heap key b1:=VR.isKey (k:=key) hi;have hlen:=qq.length;refine wpAny_setItem_heap (knd:=KK prog w) (by show A.in1.units<cLine;simp only;exact Jl (G6 _ _) 1 (.add (.var 0) (.num 1)) (.num 9900) [Ge 1 (.add (.add (.var 0) (.mulL 3 (.var 1))) (.num 100)) (.num 9900)] rfl hu) hkey dd (fun h' dd' hs=>?_) (by rw[sizeLine_eq];unfold lim at hlim;exact Gh (G6 _ _) 1 (.var 0) (.num 16777216) [Ge 1 (.var 1) (.num 100000),Gp 1 (.var 0) (.var 1)] rfl hlim (Eq.symm hlen));have hnt:∀vs n,s.heap.get? a1≠some (G4 vs n):=fun _ _=>DictOfH.nt dd;exact h _ (Ext.upd R hl ea rfl rfl hs ⟨_,dd',(qq.upd hs hnt).put (DictOfH.nodup dd) (VR.upd hi hs hnt) (hv.upd hs hnt)⟩)
    ·cases e
   ·cases e
  |int j=>
   refine VR.intE hi fun t=>?_;simp only[Zm]at e;split at e
   ·rename_i l hl;split at e
    ·rename_i hj;simp only[Q1]at e;subst e;refine z22 (R.obs n _ a1 hl ea) fun vs m ev q=>?_;refine setItem_list_at ev hj.1 (by lia) (by rw[J6 q];exact hj.2.2) fun h' n' e' hs=>?_;have hnt:=lobj_nt ev;refine h {s with heap:=h'} (Ext.upd (t:=s.toks) R hl ea rfl rfl hs ⟨_,n',e',?_⟩);rw[Array.toList_setIfInBounds];exact VsR.set (hv.upd hs hnt) (q.upd hs hnt) _
    ·cases e
   ·cases e
  |_=>simp[Zm]at e
 |_=>cases i<;>simp[Zm]at e
theorem Rel.notMod(hbs:Bs prog B)(R:Rel prog w B σ ι s.heap){n:Nat}{o:Ob}{a:Addr}(h:σ[n]?=some o)(ha:ι[n]?=some a)(hr:o.isRo=false):(a==sysModules)=false:=Jt hbs.two (R.new n o a h ha hr)
theorem len_dictH{d:Addr}{Qy:List (List Int×Addr×Value)}{Q:Value→Shared→Prop}(hd:(d==sysModules)=false)(hm:s.heap.DictOfH (KK prog w) d Qy)(hfit:(Qy.length:Int)<2^63)
 (h:∀t tk,Q (.int Qy.length t) {s with toks:=tk}):wpAny (model prog w) A (call (.builtin "len") [.ref d]) Q E s:=by
 refine Calls.call_function_entry kind_len plain_len entry_len (args_len1 _) ?_;unfold Builtin.«len»;refine Qt (m:=oneArg "len" _) (Qu ?_);have hmeets:MeetsIn prog w (Builtin.«dict.__len__» ⟨[.ref d],[]⟩) (fun _ R s=>s.heap.DictOfH (KK prog w) d Qy∧R (.ok (.ret (.int Qy.length s.toks))) {s with toks:=s.toks+1}):=.of_wp fun A R s ⟨hm,h⟩=>by
  refine cps fun qG qK=>?_;obtain⟨o,es,ep,ho,hc,hdat,he,hi,hn⟩:=hm;refine qK ?_;show wpAny _ _ (dictSize d >>= _) _ _ s;unfold dictSize;refine Qt (Qt (wpAny_dictEntries ho hdat (Qu ?_)));show wpAny _ _ (Builtin.Dict.pendingCount d >>= _) _ _ s;refine Qt (wpAny_pendingCount_other hd ?_);refine wpAny_ret_mkInt ?_;rw[Nat.add_zero,size_of_entries he];exact h
 refine Qt (m:=callSpecial? (.ref d) (Str.ofString "__len__")) (wpAny_callSpecial?_slot (name:=Str.ofString "__len__") hm.typeIs F.slot_dict_len
  (call_meetsIn F.slot_dict_len hm.typeIs F.entry_dict_len (F.args_dict_len_1 _) hmeets ⟨hm,?_⟩))
 show wpAny _ _ _ _ _ {s with toks:=s.toks+1};refine Qt (wpAny_holding (Qu ?_));refine Qt (wpAny_letGo ?_);show wpAny _ _ (if((Qy.length:Nat):Int)<0 then _ else _) _ _ _;rw[if_neg (by lia)];show wpAny _ _ (if((Qy.length:Nat):Int)≥2^63 then _ else _) _ _ _;rw[if_neg (by lia)];exact Qt (wpAny_mkInt (Qu ⟨_,rfl,h _ _⟩))
theorem ints_at{l:List V}{ns:List Int}{vs:Array Value}(e:intsOf l=some ns)(q:VsR s.heap ι l vs.toList):vs.size=ns.length∧∀i v,vs[i]?=some v→∃t,v=Value.int (ns.getD i 0) t:=by
 obtain rfl:=Ub e;refine⟨by rw[J6 q];simp,fun i v hv=>?_⟩;refine cps fun qG qK=>?_;obtain⟨x,hx,r⟩:=q.getV i v (by rw[Array.getElem?_toList];exact hv);rw[Qd,Option.map_eq_some_iff]at hx;obtain⟨n,hn,rfl⟩:=hx;refine qK ?_;refine VR.intE r fun t=>?_;exact⟨t,by simp[hn]⟩
theorem preSum_getD:∀(ns:List Int),preSum (fun i=>ns.getD i 0) ns.length=sumI ns 0:=by
 have gen:∀(ns:List Int) (a:Int),sumI ns a=a+sumI ns 0:=by
  intro ns;induction ns with
  |nil=>intro a;simp[sumI]
  |cons x r ih=>intro a;simp only[sumI];rw[ih (a+x),ih (0+x)];lia
 have app:∀(ns:List Int) (x a:Int),sumI (ns++[x]) a=sumI ns a+x:=by
  intro ns;induction ns with
  |nil=>intro x a;simp[sumI]
  |cons y r ih=>intro x a;simp only[List.cons_append,sumI];exact ih x _
 have key:∀(ns:List Int) (m:Nat),m≤ns.length→preSum (fun i=>ns.getD i 0) m=sumI (ns.take m) 0:=by
  intro ns m;induction m with
  |zero=>intro _;rfl
  |succ m ih=>
   intro hm;rw[preSum,ih (by exact Gh (G6 _ _) 1 (.var 0) (.var 1) [Gb 1 (.add (.var 0) (.num 1)) (.var 1)] rfl hm),List.take_add_one];have:ns[m]?=some (ns.getD m 0):=by
    rw[List.getD_eq_getElem?_getD,Qe (by exact Jl (G6 _ _) 1 (.var 0) (.var 1) [Gb 1 (.add (.var 0) (.num 1)) (.var 1)] rfl hm)];rfl
   rw[this,Option.toList_some,app]
 intro ns;rw[key ns ns.length (Qs _),List.take_length]
theorem iter_list{l:Addr}{items:Array Value}{Q:Value→Shared→Prop}(hl:s.heap.IsList l items)
 (h:∀s₂:Shared,s₂={s with heap:=s.heap.push {cls:=.type "list_iterator",data:=.fields #[.ref l,.int 0 0]}}→
  (s₂.heap.IsListIter s.heap.objs.size l 0∧s₂.heap.IsList l items)→(∀b∈[s.heap.objs.size,l],b<s₂.heap.objs.size)→l≠s.heap.objs.size→Q (.ref s.heap.objs.size) s₂):
 wpAny (model prog w) A (pyIter (.ref l)) Q E s:=by
 have hlt:l<s.heap.objs.size:=by obtain⟨_,e,_⟩:=hl;exact Heap.lt_size e
 refine wpAny_pyIter_list hl (h _ rfl ⟨⟨_,Qv _ rfl,rfl,rfl⟩,hl.push _⟩ (fun b hb=>?_) (Nat.ne_of_lt hlt));show b<(s.heap.push _).objs.size;rw[Heap.size_push];simp at hb;rcases hb with h1|h1
 ·rw[h1];exact Nat.lt_succ_self _
 ·rw[h1];exact Nat.lt_succ_of_lt hlt
theorem iter_tuple{l:Addr}{items:Array Value}{Q:Value→Shared→Prop}(hl:s.heap.IsTuple l items)
 (h:∀s₂:Shared,s₂={s with heap:=s.heap.push {cls:=.type "tuple_iterator",data:=.fields #[.ref l,.int 0 0]}}→
  (s₂.heap.IsTupleIter s.heap.objs.size l 0∧s₂.heap.IsTuple l items)→(∀b∈[s.heap.objs.size,l],b<s₂.heap.objs.size)→l≠s.heap.objs.size→Q (.ref s.heap.objs.size) s₂):
 wpAny (model prog w) A (pyIter (.ref l)) Q E s:=by
 have hlt:l<s.heap.objs.size:=by obtain⟨_,e,_⟩:=hl;exact Heap.lt_size e
 refine wpAny_pyIter_tuple hl (h _ rfl ⟨⟨_,Qv _ rfl,rfl,rfl⟩,hl.push _⟩ (fun b hb=>?_) (Nat.ne_of_lt hlt));show b<(s.heap.push _).objs.size;rw[Heap.size_push];simp at hb;rcases hb with h1|h1
 ·rw[h1];exact Nat.lt_succ_self _
 ·rw[h1];exact Nat.lt_succ_of_lt hlt
theorem keptB{o:Obj}{h':Heap}(hk:∀b o',b∉[s.heap.objs.size]→(s.heap.push o).get? b=some o'→h'.get? b=some o'):∀b o,s.heap.get? b=some o→h'.get? b=some o:=fun b o e=>by
 refine hk b o (fun hm=>?_) (Heap.get?_push_of_some _ e);simp at hm;exact absurd (hm▸Heap.lt_size e) (Nat.lt_irrefl _)
theorem Jp.grown{v:V}{u:Value}{h':Heap}{t:Nat}{Q:Value→Shared→Prop}(R:Rel prog w B σ ι s.heap)(h:Jp prog w B ι s v σ Q)(r:VR s.heap ι v u)(hk:∀b o,s.heap.get? b=some o→h'.get? b=some o):Q u {s with heap:=h',toks:=t}:=
 h ι _ u (Ext.grown R hk) (r.mono (fun a vs n e=>hk _ _ e) (Q3 _))
theorem itemsOf_at{v:V}{l:List V}{u:Value}(R:Rel prog w B σ ι s.heap)(r:VR s.heap ι v u)(e:Gn v σ=some l):
 ∃a vs,u=.ref a∧VsR s.heap ι l vs.toList∧(s.heap.IsList a vs∨s.heap.IsTuple a vs):=by
 cases v with
 |tup l'=>
  refine VR.tupE r fun a vs n ev q _=>?_;simp only[Gn,Q1]at e;subst e;exact⟨a,vs,rfl,q,.inr (J4 ev)⟩
 |loc n=>
  refine VR.locE r fun a ea=>?_;simp only[Gn]at e;split at e
  ·rename_i l' hl;simp only[Q1]at e;subst e;refine z22 (R.obs n _ a hl ea) fun vs m ev q=>?_;exact⟨a,vs,rfl,q,.inl (Ga ev)⟩
  ·cases e
 |_=>simp[Gn]at e
theorem sum_snd{v:V}{l:List V}{ns:List Int}{u:Value}{Q:Value→Shared→Prop}(R:Rel prog w B σ ι s.heap)(rm:Yj A k)(r:VR s.heap ι v u)(e:Gn v σ=some l)(hi:intsOf l=some ns)
 (h:Jp prog w B ι s (.int (sumI ns 0)) σ Q):wpAny (model prog w) A (call (.builtin "sum") [u]) Q E s:=by
 obtain⟨a,vs,rfl,q,hseq⟩:=itemsOf_at R r e;refine zA2 (ints_at hi q) fun h1 h2=>?_;have fin:∀{h':Heap} {tk t':Nat},(∀b o,s.heap.get? b=some o→h'.get? b=some o)→Q (.int (preSum (fun i=>ns.getD i 0) vs.size) t') {s with heap:=h',toks:=tk}:=fun hk=>by
  rw[h1,preSum_getD];exact h.grown R (.int _ _) hk
 rcases hseq with hl|hl
 ·refine call_sum_walkG (iter_list hl fun s₂ e st hfp hlI=>?_);subst e;exact⟨_,_,_,_,_,_,fun i=>ns.getD i 0,rfl,Walks.list (A:=A.in1) rm.h _ a hlI vs,st,hfp,fun i v hv=>h2 i v hv,fun h' tk t' hk=>fin (keptB hk)⟩
 ·refine call_sum_walkG (iter_tuple hl fun s₂ e st hfp hlI=>?_);subst e;exact⟨_,_,_,_,_,_,fun i=>ns.getD i 0,rfl,Walks.tuple (A:=A.in1) rm.h _ a hlI vs,st,hfp,fun i v hv=>h2 i v hv,fun h' tk t' hk=>fin (keptB hk)⟩
theorem maxI_app:∀(l:List Int) (x a:Int),maxI (l++[x]) a=if maxI l a<x then x else maxI l a
 |[],x,a=>rfl
 |y::r,x,a=>by simp only[List.cons_append,maxI];exact maxI_app r x _
theorem argBest_max(ns:List Int):∀m,m<ns.length→∀a l,ns=a::l→ns.getD (argBest (fun i j=>decide (ns.getD i 0>ns.getD j 0)) m) 0=maxI (l.take m) a:=by
 intro m;induction m with
 |zero=>intro _ a l e;subst e;simp[argBest,maxI]
 |succ m ih=>
  intro hm a l e;have h1:=ih (by exact Jl (G6 _ _) 1 (.var 0) (.var 1) [Ge 1 (.add (.var 0) (.num 1)) (.var 1)] rfl hm) a l e;subst e;have hl:m<l.length:=by simp at hm;exact Jl (G6 _ _) 1 (.var 0) (.var 1) [Ge 1 (.var 0) (.var 1)] rfl hm
  have h2:(a::l).getD (m+1) 0=l[m]:=by simp[hl]
  rw[List.take_add_one,Qe hl,Option.toList_some,maxI_app,←h1];have hs:argBest (fun i j=>decide ((a::l).getD i 0>(a::l).getD j 0)) (m+1)=if decide ((a::l).getD (m+1) 0>(a::l).getD (argBest (fun i j=>decide ((a::l).getD i 0>(a::l).getD j 0)) m) 0)=true then m+1 else argBest (fun i j=>decide ((a::l).getD i 0>(a::l).getD j 0)) m:=rfl
  rw[hs];generalize argBest (fun i j=>decide ((a::l).getD i 0>(a::l).getD j 0)) m=g at *;by_cases hc:(a::l).getD g 0<l[m]
  ·rw[if_pos hc,if_pos (by rw[h2];simpa using hc),h2]
  ·rw[if_neg hc,if_neg (by rw[h2];simpa using hc)]
theorem max_list_snd{v:V}{l:List V}{x:Int}{ns:List Int}{u:Value}{Q:Value→Shared→Prop}(R:Rel prog w B σ ι s.heap)(rm:Yj A k)(r:VR s.heap ι v u)(e:Gn v σ=some l)(hi:intsOf l=some (x::ns))
 (h:Jp prog w B ι s (.int (maxI ns x)) σ Q):wpAny (model prog w) A (call (.builtin "max") [u]) Q E s:=by
 obtain⟨a,vs,rfl,q,hseq⟩:=itemsOf_at R r e;refine zA2 (ints_at hi q) fun h1 h2=>?_;have hpos:0<vs.size:=by rw[h1];simp
 have hcmp:CmpOf prog w A.in1 .Gt (fun i v=>vs[i]?=some v) fun i j=>decide ((x::ns).getD i 0>(x::ns).getD j 0):=CmpOf.ints_gt (fun i=>(x::ns).getD i 0) fun i v hv=>h2 i v hv;have fin:∀{h':Heap} {tk:Nat} {v':Value},vs[argBest (fun i j=>decide ((x::ns).getD i 0>(x::ns).getD j 0)) (vs.size-1)]?=some v'→(∀b o,s.heap.get? b=some o→h'.get? b=some o)→Q v' {s with heap:=h',toks:=tk}:=fun hv hk=>by
  obtain⟨t,rfl⟩:=h2 _ _ hv;have:=argBest_max (x::ns) (vs.size-1) (by lia) x ns rfl;rw[this];have h3:ns.take (vs.size-1)=ns:=by rw[List.take_of_length_le];rw[h1];simp
  rw[h3];exact h.grown R (.int _ _) hk
 rcases hseq with hl|hl
 ·refine call_max_walk (iter_list hl fun s₂ e st hfp hlI=>?_);subst e;exact⟨_,_,_,_,_,_,_,rfl,Walks.list (A:=A.in1) rm.h _ a hlI vs,st,hfp,hpos,hcmp,fun v' h' tk hP hk=>fin hP (keptB hk)⟩
 ·refine call_max_walk (iter_tuple hl fun s₂ e st hfp hlI=>?_);subst e;exact⟨_,_,_,_,_,_,_,rfl,Walks.tuple (A:=A.in1) rm.h _ a hlI vs,st,hfp,hpos,hcmp,fun v' h' tk hP hk=>fin hP (keptB hk)⟩
theorem anyV_bools:∀{l:List V} {b:Bool},anyV l=some b→∃bs:List Bool,l=bs.map V.bool∧b=bs.any id
 |[],b,e=>by simp only[anyV,Q1]at e;subst e;exact⟨[],rfl,rfl⟩
 |.bool x::r,b,e=>by
  simp only[anyV,Option.map_eq_some_iff]at e;obtain⟨b',e',rfl⟩:=e;obtain⟨bs,rfl,rfl⟩:=anyV_bools e';exact⟨x::bs,rfl,rfl⟩
 |.none::_,_,e=>by simp[anyV]at e
 |.int _::_,_,e=>by simp[anyV]at e
 |.str _::_,_,e=>by simp[anyV]at e
 |.tup _::_,_,e=>by simp[anyV]at e
 |.loc _::_,_,e=>by simp[anyV]at e
theorem any_snd{v:V}{l:List V}{b:Bool}{u:Value}{Q:Value→Shared→Prop}(R:Rel prog w B σ ι s.heap)(rm:Yj A k)(r:VR s.heap ι v u)(e:Gn v σ=some l)(hb:anyV l=some b)
 (h:Jp prog w B ι s (.bool b) σ Q):wpAny (model prog w) A (call (.builtin "any") [u]) Q E s:=by
 obtain⟨a,vs,rfl,q,hseq⟩:=itemsOf_at R r e;obtain⟨bs,rfl,rfl⟩:=anyV_bools hb;have hsz:vs.size=bs.length:=by rw[J6 q];simp
 have htr:∀M:Nat,TruthOf prog w A.in1 (fun i v=>vs[i]?=some v) fun i=>bs.getD i false:=fun _ i v s' Q' E' hv hQ=>by
  obtain⟨x,hx,rx⟩:=q.getV i v (by rw[Array.getElem?_toList];exact hv);rw[Qd,Option.map_eq_some_iff]at hx;obtain⟨b0,hb0,rfl⟩:=hx;obtain rfl:=rx.bool_inv;have:bs.getD i false=b0:=by simp[hb0]
  have hQ:Q' (bs.getD i false) s':=hQ;rw[this]at hQ;exact wpAny_truthy_bool hQ
 have hany:(List.range vs.size).any (fun i=>bs.getD i false)=bs.any id:=by
  rw[hsz];clear hsz htr q h hb e;induction bs with
  |nil=>rfl
  |cons x r ih=>
   rw[Qa,List.range_succ_eq_map,List.any_cons,List.any_map,List.any_cons];have:((fun i=>(x::r).getD i false)∘Nat.succ)=fun i=>r.getD i false:=by funext i;simp
   rw[this,ih];simp
 have fin:∀{h':Heap} {tk:Nat},(∀b o,s.heap.get? b=some o→h'.get? b=some o)→Q (.bool ((List.range vs.size).any fun i=>bs.getD i false)) {s with heap:=h',toks:=tk}:=fun hk=>by
  rw[hany];exact h.grown R (.bool _) hk
 rcases hseq with hl|hl
 ·refine call_any_walk (iter_list hl fun s₂ e st hfp hlI=>?_);subst e;exact⟨_,_,_,_,_,_,_,rfl,Walks.list (A:=A.in1) rm.h _ a hlI vs,st,htr 0,fun h' tk hk=>fin (keptB hk)⟩
 ·refine call_any_walk (iter_tuple hl fun s₂ e st hfp hlI=>?_);subst e;exact⟨_,_,_,_,_,_,_,rfl,Walks.tuple (A:=A.in1) rm.h _ a hlI vs,st,htr 0,fun h' tk hk=>fin (keptB hk)⟩
theorem len_snd{n m:Nat}{u:Value}{Q:Value→Shared→Prop}(hbs:Bs prog B)(R:Rel prog w B σ ι s.heap)(r:VR s.heap ι (.loc n) u)(e:σ[n]?.bind Ob.len=some m)(hlim:m<lim)
 (h:Jp prog w B ι s (.int m) σ Q):wpAny (model prog w) A (call (.builtin "len") [u]) Q E s:=by
 refine VR.locE r fun a ea=>?_;unfold lim at hlim;rcases len_inv e with⟨l,hl,rfl⟩|⟨es,hl,rfl⟩
 ·refine z22 (R.obs n _ a hl ea) fun vs m ev q=>?_;have hs:=J6 q;rw[←hs]at h;exact Calls.call_len_list (Ga ev) (by lia) (h.tok R _ (.int _ _))
 ·refine z12 (R.obs n _ a hl ea) fun Qy dd qq=>?_;have hs:=qq.length;rw[hs]at h;exact len_dictH (R.notMod hbs hl ea rfl) dd (by lia) fun t tk=>h.tok R _ (.int _ _)
noncomputable def hk(x:List Int):Int:=reduceHash (Builtin.Tuple.tupleHashOf (x.map hashInt))
theorem small_hash:(Jj.map hk).Nodup:=by decide+kernel
theorem small_inj{x y:List Int}(hx:x∈Jj)(hy:y∈Jj)(h:hk x=hk y):x=y:=by
 refine z11 (Qn hx) fun i hi=>?_;refine z11 (Qn hy) fun j hj=>?_;have hi':(Jj.map hk)[i]?=some (hk x):=by rw[Qd,hi];rfl
 have hj':(Jj.map hk)[j]?=some (hk y):=by rw[Qd,hj];rfl
 rw[←h]at hj';have:=(List.getElem?_inj (Q6 hi').1 small_hash).mp (hi'.trans hj'.symm);subst this;rw[hi]at hj;exact Option.some.inj hj
theorem one_hash{Qy:List (List Int×Addr×Value)}(hn:(Qy.map (·.1)).Nodup)(hs:∀r∈Qy,r.1∈Jj)(c:Int):((Qy.map (entryOfKey (KK prog w))).filter fun e=>e.hash==c).length≤1:=by
 induction Qy with
 |nil=>simp
 |cons r Qy ih=>
  simp only[Q7,List.nodup_cons]at hn;rw[Q7,List.filter_cons];by_cases hc:((entryOfKey (KK prog w) r).hash==c)=true
  ·rw[if_pos hc];have h0:((Qy.map (entryOfKey (KK prog w))).filter fun e=>e.hash==c)=[]:=by
    rw[List.filter_eq_nil_iff];intro e he hce;obtain⟨q,hq,rfl⟩:=Qg he;have h1:hk r.1=hk q.1:=by
     have e1:=beq_iff_eq.mp hc;have e2:=beq_iff_eq.mp hce;exact e1.trans e2.symm
    have:=small_inj (hs r (.head _)) (hs q (.tail _ hq)) h1;exact hn.1 (this▸Qj hq)
   rw[h0];simp
  ·rw[if_neg hc];exact ih hn.2 fun q hq=>hs q (.tail _ hq)
theorem entriesH{id:String}{d:Addr}{Qy:List (List Int×Addr×Value)}{o:Obj}{es:Array DictEntry}{ep:Nat}{Q:Array DictEntry→Shared→Prop}(ho:s.heap.get? d=some o)(hd:o.data=.dict es ep)(he:es.toList=Qy.map (entryOfKey (KK prog w)))
 (hi:∀r∈Qy,(KK prog w).is s.heap r.1 r.2.1) (hn:(Qy.map (·.1)).Nodup) (hs:∀r∈Qy,r.1∈Jj) (h:Q es s):
 wpAny (model prog w) A (Builtin.Dict.entriesForEmpty id d) Q E s:=by
 unfold Builtin.Dict.entriesForEmpty;refine Qt (wpAny_dictEntries ho hd ?_);refine Qt ?_;rw[←Array.forIn_toList];refine wpAny_forIn_list _ (fun rest _ s'=>s'=s∧∀e∈rest,e∈es.toList) _ ?_ ?_ _ _ ⟨rfl,fun e he=>he⟩
 ·rintro e rest _ s' ⟨rfl,hm⟩;have hme:=hm e (.head _);rw[he]at hme;obtain⟨r,hr,rfl⟩:=Qg hme;have hT:=(hi r hr).typeIs;have hsz:¬(es.filter (·.hash==(entryOfKey (KK prog w) r).hash)).size>1:=by
   have h1:=one_hash (prog:=prog) (w:=w) hn hs (entryOfKey (KK prog w) r).hash;rw[←Array.length_toList,Array.toList_filter,he];exact Nat.not_lt.mpr (Gh (.leaf _) 1 (.var 0) (.num 1) [Gb 1 (.var 0) (.num 1)] rfl h1)
  unfold Builtin.Dict.quietEq;show wpAny _ _ ((do return (←specialOf (Value.ref r.2.1) "__eq__")==some (.builtin "object.__eq__")) >>= _) _ _ _;refine Qt (Qt (wpAny_specialOf hT F.slot_tuple_eq.lookup (Qu ?_)));split
  ·exact Qu ⟨rfl,fun e he=>hm e (.tail _ he)⟩
  ·exact Qu ⟨rfl,fun e he=>hm e (.tail _ he)⟩
 ·rintro _ s' ⟨rfl,_⟩;exact Qu h
theorem dict_copyH{o:Addr}{Qy:List (List Int×Addr×Value)}{Q:Value→Shared→Prop}(hoS:(o==sysModules)=false)(ho:s.heap.DictOfH (KK prog w) o Qy)(hsz:Qy.length≤sizeLine)(hs:∀r∈Qy,r.1∈Jj)
 (h:∀h',h'.DictOfH (KK prog w) s.heap.objs.size Qy→(∀b o,s.heap.get? b=some o→h'.get? b=some o)→Q (.ref s.heap.objs.size) {s with heap:=h'}):
 wpAny (model prog w) A (call (.type "dict") [.ref o]) Q E s:=by
 refine callType_codes (Q₁:=fun obj s₁=>obj=.ref s.heap.objs.size∧s₁={s with heap:=s.heap.push {cls:=.type "dict",data:=.dict #[]}}) F.kt_called_dict (F.kt_typeCall_dict_1 _) F.entry_dict_init (kt_code_dict_new _ ⟨rfl,rfl⟩) ?_;rintro obj s₁ ⟨rfl,rfl⟩;have hnew:(s.heap.push {cls:=.type "dict",data:=.dict #[]}).DictOfH (KK prog w) s.heap.objs.size []:=Heap.DictOfH.new s.heap;refine cps fun qG qK=>?_;obtain⟨oo,eso,epo,hoo,hco,hdo',heo,hio,hno⟩:=id ho;refine qK ?_;have hoo':=G2 s.heap {cls:=.type "dict",data:=.dict #[]} _ _ hoo;have hTo:(Shared.mk (s.heap.push {cls:=.type "dict",data:=.dict #[]}) s.gens s.drawn s.toks s.os).TypeIs (.ref o) "dict" :=⟨oo,hoo',hco.1⟩
 have hTn:(Shared.mk (s.heap.push {cls:=.type "dict",data:=.dict #[]}) s.gens s.drawn s.toks s.os).TypeIs (.ref s.heap.objs.size) "dict" :=hnew.typeIs;have hdo:s.heap.objs.size≠o:=fun e=>absurd (Heap.lt_size hoo) (by rw[e];exact Nat.lt_irrefl _);refine⟨hTn,F.args_dict_init_2 _ _,?_⟩;unfold Builtin.«dict.__init__»;refine Qt ?_;unfold Builtin.Dict.selfAndRest;refine Qt (wpAny_notOrdered_dict hTn ?_);show wpAny _ _ (pure (s.heap.objs.size,[Value.ref o])) _ _ _;refine Qu ?_;show wpAny _ _ (Builtin.Dict.updateFrom "dict.__init__" s.heap.objs.size (.ref o) [] .none) _ _ _;unfold Builtin.Dict.updateFrom;refine Qt (wpAny_typeOf hTo ?_);rw[if_neg (by decide)];refine Qt ?_;unfold Builtin.Dict.merge;refine Qt ?_;unfold Builtin.Dict.readDirectly;refine Qt (wpAny_isInstance hTo isSubtype_dict_dict ?_);simp only[Bool.not_true,Qq,if_false];refine Qt (wpAny_specialOf hTo F.slot_dict_iter.lookup (Qu ?_));simp only[beq_self_eq_true,if_true];refine Qt (Qu ?_);unfold Builtin.Dict.mergeDict;rw[if_neg (by simpa using hdo)];unfold Builtin.Dict.showsAll;rw[if_neg (by rw[hoS];exact Bool.false_ne_true)];refine Qt (Qu ?_);refine Qt (wpAny_dictEntries hoo' hdo' ?_);refine cps fun qG qK=>?_;obtain⟨on,esn,epn,hon,hcn,hdn,hen,_,_⟩:=id hnew;refine qK ?_;have hesn:esn= #[]:=by
  have:esn.toList=[]:=by rw[hen];rfl
  exact Array.toList_eq_nil_iff.mp this
 have hsize:eso.size=Qy.length:=size_of_entries heo;have fin:∀h',h'.DictOfH (KK prog w) s.heap.objs.size Qy→Heap.SameBut s.heap.objs.size (s.heap.push {cls:=.type "dict",data:=.dict #[]}) h'→
  wpAny (model prog w) A.in1.in1 (Builtin.Dict.addKeywords s.heap.objs.size [] >>= fun _=>ret Value.none) (fun fin s'=>match fin with|.done f=>wants (fun r s₂=>r=.none∧Q (.ref s.heap.objs.size) s₂) E (.ok f) s'|.again c'=>c'.quiet=true∧codeAny (model prog w) A.in1 c' (wants (fun r s₂=>r=.none∧Q (.ref s.heap.objs.size) s₂) E) s')
   (fun e s'=>wants (fun r s₂=>r=.none∧Q (.ref s.heap.objs.size) s₂) E (.error e) s') {s with heap:=h'}:=fun h' hd' hs'=>by
  refine Qt (Qu (Qu ⟨rfl,h h' hd' fun b o e=>?_⟩));exact(hs'.2 b (Nat.ne_of_lt (Heap.lt_size e))).trans (G2 _ _ _ _ e)
 by_cases hemp:Qy=[]
 ·subst hemp;have hes:eso= #[]:=by
   have:eso.toList=[]:=by rw[heo];rfl
   exact Array.toList_eq_nil_iff.mp this
  subst hes;simp only[List.size_toArray,Qk,Nat.zero_le,decide_true,Bool.true_and];rw[if_neg (by simp)];refine Qt (wpAny_dictEpoch hoo' hdo' ?_);refine Qt (wpAny_dictEntries hoo' hdo' ?_);refine Qt ?_;rw[Std.Legacy.Range.forIn_eq_forIn_range'];simp only[Std.Legacy.Range.size,List.size_toArray,Qk];refine Qu (Qu ?_);exact fin _ hnew (Heap.SameBut.refl _ _)
 ·refine z21 (List.exists_cons_of_ne_nil hemp) fun r0 rest hrows=>?_;have hfew:(decide (eso.size≤8)&&eso.all fun e=>(keyPart e.key).isSome)=false:=by
   have:(eso.all fun e=>(keyPart e.key).isSome)=false:=by
    rw[←Array.all_toList,heo,hrows,Q7,List.all_cons];rfl
   rw[this,Bool.and_false]
  show wpAny _ _ (if(!(decide (eso.size≤8)&&eso.all fun e=>(keyPart e.key).isSome))=true then _ else _) _ _ _;rw[hfew,if_pos (by rfl)];refine Qt (wpAny_dictEntries hon hdn ?_);rw[hesn,if_pos (by rfl)];refine Qt (entriesH hoo' hdo' heo (fun r hr=>?_) hno hs ?_)
  ·refine z34 (hio r hr) fun o2 items n2 e2 hc2 hd2 hi2=>?_;exact⟨o2,items,n2,G2 _ _ _ _ e2,hc2,hd2,hi2⟩
  have hne:(!eso.isEmpty)=true:=by
   have:eso.size≠0:=by rw[hsize,hrows];simp
   cases he0:eso.isEmpty with
   |false=>rfl
   |true=>exact absurd (by rw[Array.isEmpty_iff.mp he0];rfl) this
  rw[if_pos hne];refine Qt (wpAny_updateDictKeysTo hon hdn (Qu ?_) (by exact Gh (G6 _ _) 1 (.var 0) (.add (.num 16777216) (.num 1)) [Gb 1 (.var 1) (.num 16777216),Gp 1 (.var 0) (.var 1)] rfl hsz hsize));refine fin _ ⟨_,eso,epn+1,Heap.get?_update_self _ hon (Obj.isFreed_of_dict (Obj.data_mapDictKeys hdn _)),hcn.mapDictKeys _,Obj.data_mapDictKeys hdn _,heo,fun r hr=>?_,hno⟩ (Heap.SameBut.update ..);refine(KK prog w).keeps ?_ hon hdn (Heap.SameBut.update ..);refine z34 (hio r hr) fun o2 items n2 e2 hc2 hd2 hi2=>?_;exact⟨o2,items,n2,G2 _ _ _ _ e2,hc2,hd2,hi2⟩
end
theorem Z8:entryFor table "dict.update.loop" =some Builtin.«dict.update.loop»:=entryFor_of_tree (by kernel_rfl)
theorem Y1:plainId "dict.update.loop" =true:=by decide+kernel
theorem list_no_keys:typeLookup (.type "list") "keys" =pure none:=by rw[typeLookup_type,builtinLookup_eq_fast];kernel_rfl
section
variable{prog:Program}{w:World}{A:Around}{E:Value→Shared→Prop}{B:Bas}{σ:Sto}{ι:List Addr}{s:Shared}{k:Nat}
theorem getAttr_list_keys{a:Addr}{xs:Array Value}{n:Nat}{Q:Option Value→Shared→Prop}(hx:s.heap.get? a=some (J1 xs n))(hA:A.handled=none)
 (h:∀h' tk,(∀b o,s.heap.get? b=some o→h'.get? b=some o)→Q none {s with heap:=h',toks:=tk}):
 wpAny (model prog w) A (getAttr? (.ref a) "keys") Q E s:=by
 obtain⟨hp,g,d,tk,os⟩:=s;have hT:∀tk',(⟨hp,g,d,tk',os⟩:Shared).TypeIs (.ref a) "list" :=fun _=>⟨_,hx,rfl⟩
 have f1:=sub_AttributeError;have f3:=F.slot_list_getattribute.lookup;have f4:=F.slot_list_getattribute.bind (.ref a);have f5:=am_list_getattr_none;unfold J1 at hx;unfold getAttr? getAttrBy? getAttrBy
 repeat (any_goals (first|assumption|exact hT _|((with_reducible show wpAny _ _ (call (Value.builtin "list.__getattribute__") _ _) _ _ _);refine call_meets F.slot_list_getattribute (hT _) am_entry_list_getattribute (F.args_list_getattribute_2 _ _) (meets_getattribute_miss_list a xs n #[] "keys" _ list_no_keys (by decide+kernel) (by decide+kernel)) ⟨hx,hA,fun h' tk' e hx'=>?_⟩)|wp_step))
 refine z21 hx'.there fun t' u' he=>?_;show wpAny _ _ (getattributeRaised _ _ _ _ _ _ _) _ _ _;unfold getattributeRaised
 repeat (any_goals (first|assumption|wp_step))
 exact h _ _ hx'.of.keeps
theorem tup_of_but{h h':Heap}{d:Addr}{o:Obj}(ho:h.get? d=some o)(hns:∀vs n,o≠G4 vs n)(hs:Heap.SameBut d h h'):∀a vs n,h.get? a=some (G4 vs n)→h'.get? a=some (G4 vs n):=fun a vs n e=>
 (hs.2 a fun hh=>by subst hh;rw[ho]at e;exact hns vs n (Option.some.inj e)).trans e
theorem key_some{x:Option (List Int)}{r:List Int→Option (List (List Int×V))}{es:List (List Int×V)}(e:(match x with|some key=>r key|none=>none)=some es):∃key,x=some key∧r key=some es:=by
 cases x with
 |none=>exact nomatch e
 |some key=>exact⟨key,rfl,e⟩
theorem pairs_cons{x:V}{rest:List V}{acc es:List (List Int×V)}(e:Z2 (x::rest) acc=some es):∃key v,x=.tup [.tup (key.map V.int),v]∧Z2 rest (dput acc key v)=some es:=by
 cases x with
 |tup l=>cases l with
  |nil=>exact nomatch e
  |cons y l=>cases y with
   |tup kv=>cases l with
    |nil=>exact nomatch e
    |cons v l=>cases l with
     |nil=>exact z12 (key_some e) fun key hk e=>⟨key,v,by rw[Ub hk],e⟩
     |cons _ _=>exact nomatch e
   |_=>exact nomatch e
 |_=>exact nomatch e
theorem ne_data{h:Heap}{a b:Addr}{o o':Obj}{d d':Data}(e:h.get? a=some o)(hd:o.data=d)(e':h.get? b=some o')(hd':o'.data=d')(hn:d≠d'):a≠b:=fun hab=>hn (hd.symm.trans ((congrArg Obj.data (Option.some.inj (e.symm.trans (hab▸e')))).trans hd'))
theorem upd_loop{I L D:Addr}{vs:Array Value}{result:Value}(hh:A.handled=none)(hu:A.units+8<cLine){R:Result→Shared→Prop}:∀(rest:List V) (i:Nat) (c:Int) (acc es:List (List Int×V)) (Qy:List (List Int×Addr×Value)) (s:Shared),
 Z2 rest acc=some es→VsR s.heap ι rest (vs.toList.drop i)→s.heap.IsListIter I L i→s.heap.IsList L vs→s.heap.DictOfH (KK prog w) D Qy→J9 s.heap ι acc Qy→Qy.length+rest.length≤sizeLine→
 (∀h' rows' tk,h'.DictOfH (KK prog w) D rows'→J9 h' ι es rows'→(∀b o,b≠I→b≠D→s.heap.get? b=some o→h'.get? b=some o)→R (.ok (.ret result)) {s with heap:=h',toks:=tk})→
 codeAny (model prog w) A (.builtin "dict.update.loop" ⟨[.ref D,.ref I,.int c 0,result],[]⟩) R s:=by
 intro rest;induction rest with
 |nil=>
  intro i c acc es Qy s e q hI hL hD hr hsz h;cases e;have hx:vs[i]?=none:=by
   rw[←Array.getElem?_toList,←Nat.add_zero i,←List.getElem?_drop,show vs.toList.drop i=[]from q.fwd];rfl
  refine codeAny_builtin Z8 ?_;rw[Around.under_plainId Y1 _];refine Qt (wpAny_pyNext_list_end (A:=A.in1) hh hI hL hx fun h' hs=>Qt (Qu (Qu ?_)));refine z13 hI fun o ho _ hd=>z33 (id hD) fun oD _ _ hoD _ hdD=>?_;have hID:D≠I:=ne_data hoD hdD.1 ho hd fun e=>nomatch e;have ht:∀a vs n,s.heap.get? a=some (G4 vs n)→h'.get? a=some (G4 vs n):=fun a vs n ea=>hs a _ (ne_data ea rfl ho hd fun e=>nomatch e) ea;have hr':=hr.mono ht (Q3 _);exact h h' Qy s.toks (Up hD (fun o=>hs D o hID) hr'.keys) hr' fun b o hb _ eb=>hs b o hb eb
 |cons x rest ih=>
  intro i c acc es Qy s e q hI hL hD hr hsz h;refine cps fun qG qK=>?_;refine z22 (pairs_cons e) fun key v ex e2=>?_;subst ex;refine z23 q.fwd fun u us hrest qa qr=>z33 qa.tup_ref fun a ws n eu ea qw=>z23 qw.fwd fun wk t1 ew qk q2=>z23 q2.fwd fun wv t2 ew2 qv q3=>z33 qk.tup_ref fun ka kws kn ek eka qkw=>?_;refine qK ?_;have hws:ws.toList=[wk,wv]:=by rw[ew,ew2,show t2=[]from q3.fwd]
  have hvi:vs[i]?=some (.ref a):=by
   rw[←Array.getElem?_toList,←Nat.add_zero i,←List.getElem?_drop,hrest,eu];rfl
  have hdr:vs.toList.drop (i+1)=us:=by rw[←List.tail_drop,hrest];rfl
  subst ek;refine codeAny_builtin Z8 ?_;rw[Around.under_plainId Y1 _];refine Qt (wpAny_pyNext_list_item (A:=A.in1) hI hL hvi fun h₁ hI₁ hs₁=>?_);refine cps fun qG qK=>?_;refine z13 (id hI) fun oI hoI hcI hdI=>z33 (id hD) fun oD _ _ hoD _ hdD=>z11 (id hL) fun oL hL'=>?_;refine qK ?_;have ht₁:=tup_of_but hoI (data_nt hdI fun _ _ e=>nomatch e) hs₁;have hDI:D≠I:=ne_data hoD hdD.1 hoI hdI fun e=>nomatch e;have hLI:L≠I:=z11 hL'.2.2 fun _ hd'=>ne_data hL'.1 hd' hoI hdI fun e=>nomatch e;have hLD:L≠D:=z11 hL'.2.2 fun _ hd'=>ne_data hL'.1 hd' hoD hdD.1 fun e=>nomatch e;have hL₁:h₁.IsList L vs:=⟨oL,(hs₁.2 L hLI).trans hL'.1,hL'.2⟩
  have hr₁:=hr.mono ht₁ (Q3 _);have hD₁:h₁.DictOfH (KK prog w) D Qy:=Up hD (fun o=>(hs₁.2 D hDI).trans) hr₁.keys;have hqk₁:VR h₁ ι (keyV key) (.ref ka):=qk.mono ht₁ (Q3 _);have ea₁:=ht₁ _ _ _ ea;refine Qt (wpAny_holding (Qt (wpAny_tryCatch ?_)));unfold Builtin.Dict.pairItems;refine Qt (wpAny_typeOf (s:={s with heap:=h₁}) (T:= "tuple") ⟨_,ea₁,rfl⟩ ?_);rw[if_pos (by decide)];refine Qt (wpAny_seqItems (s:={s with heap:=h₁}) ea₁ rfl (Qu ?_));show wpAny _ _ (match ws.toList with|[k,v]=>_|l=>_) _ _ _;rw[hws];refine wpAny_holding (wpAny_dictSet_heap (A:=A.in1) (knd:=KK prog w) (s:={s with heap:=h₁}) (k:=key) (Nat.lt_of_le_of_lt (Nat.add_le_add_left (by decide:1≤8) _) hu) hqk₁.isKey hD₁ (fun h₂ hD₂ hs₂=>?_) (Nat.le_trans (Nat.le_add_right _ _) hsz));have ht₂:=tup_of_but ((hs₁.2 D hDI).trans hoD) (data_nt hdD.1 fun _ _ e=>nomatch e) hs₂;refine Qu ⟨plainId_quiet Y1 _,?_⟩;refine ih (i+1) (c+1) (dput acc key v) es (storedH Qy key ka wv) {s with heap:=h₂,toks:=_} e2 ?_ ?_ ?_ hD₂ ?_ ?_ ?_
  ·rw[hdr];exact(qr.mono ht₁ (Q3 _)).mono ht₂ (Q3 _)
  ·exact z12 hI₁ fun o' ho' r=>⟨o',(hs₂.2 I (Ne.symm hDI)).trans ho',r⟩
  ·exact⟨oL,(hs₂.2 L hLD).trans ((hs₁.2 L hLI).trans hL'.1),hL'.2⟩
  ·exact(hr₁.put hdD.2.2.2 hqk₁ (qv.mono ht₁ (Q3 _))).mono ht₂ (Q3 _)
  ·have:(storedH Qy key ka wv).length≤Qy.length+1:=by
    unfold storedH;split<;>simp
   exact Nat.le_trans (Nat.add_le_add_right this _) (by rw[Nat.add_assoc,Nat.add_comm 1];exact hsz)
  ·exact fun h' rows' tk a b cc=>h h' rows' tk a b fun x o hxI hxD ex=>cc x o hxI hxD ((hs₂.2 x hxD).trans ((hs₁.2 x hxI).trans ex))
theorem dict_pairsH{a:Addr}{vs:Array Value}{n:Nat}{l:List V}{es:List (List Int×V)}{Q:Value→Shared→Prop}(hh:A.handled=none)(hu:A.units+30<cLine)(hl:s.heap.get? a=some (J1 vs n))(q:VsR s.heap ι l vs.toList)(e:Z2 l []=some es)(hsz:l.length≤sizeLine)
 (h:∀h' Qy tk,h'.DictOfH (KK prog w) s.heap.objs.size Qy→J9 h' ι es Qy→(∀b o,s.heap.get? b=some o→h'.get? b=some o)→Q (.ref s.heap.objs.size) {s with heap:=h',toks:=tk}):
 wpAny (model prog w) A (call (.type "dict") [.ref a]) Q E s:=by
 refine callType_codes (Q₁:=fun obj s₁=>obj=.ref s.heap.objs.size∧s₁={s with heap:=s.heap.push {cls:=.type "dict",data:=.dict #[]}}) F.kt_called_dict (F.kt_typeCall_dict_1 _) F.entry_dict_init (kt_code_dict_new _ ⟨rfl,rfl⟩) ?_;rintro obj s₁ ⟨rfl,rfl⟩;have hnew:(s.heap.push {cls:=.type "dict",data:=.dict #[]}).DictOfH (KK prog w) s.heap.objs.size []:=Heap.DictOfH.new s.heap;have hl':=G2 s.heap {cls:=.type "dict",data:=.dict #[]} _ _ hl;have hTo:(Shared.mk (s.heap.push {cls:=.type "dict",data:=.dict #[]}) s.gens s.drawn s.toks s.os).TypeIs (.ref a) "list" :=⟨_,hl',rfl⟩
 have hTn:(Shared.mk (s.heap.push {cls:=.type "dict",data:=.dict #[]}) s.gens s.drawn s.toks s.os).TypeIs (.ref s.heap.objs.size) "dict" :=hnew.typeIs;refine⟨hTn,F.args_dict_init_2 _ _,?_⟩;unfold Builtin.«dict.__init__»;refine Qt ?_;unfold Builtin.Dict.selfAndRest;refine Qt (wpAny_notOrdered_dict hTn ?_);show wpAny _ _ (pure (s.heap.objs.size,[Value.ref a])) _ _ _;refine Qu ?_;show wpAny _ _ (Builtin.Dict.updateFrom "dict.__init__" s.heap.objs.size (.ref a) [] .none) _ _ _;unfold Builtin.Dict.updateFrom;refine Qt (wpAny_typeOf hTo ?_);rw[if_pos (by decide)];refine Qt (getAttr_list_keys hl' (by show A.handled=none;exact hh) fun h₁ tk hk₁=>?_);refine Qt (wpAny_rule ?_);have hl₁:=hk₁ _ _ hl';refine Qt (iter_list (Ga hl₁) fun s₂ e₂ st hfp hlI=>?_);subst e₂;have hk₂:∀b o,s.heap.get? b=some o→(h₁.push {cls:=.type "list_iterator",data:=.fields #[.ref a,.int 0 0]}).get? b=some o:=fun b o eb=>G2 _ _ _ _ (hk₁ _ _ (G2 _ _ _ _ eb));refine cps fun qG qK=>?_;obtain⟨oo,eso,epo,hoo,hco,hdo',heo,hio,hno⟩:=id hnew;refine qK ?_;have hlt:s.heap.objs.size<h₁.objs.size:=Heap.lt_size (hk₁ _ _ hoo);refine Qu ⟨plainId_quiet Y1 _,?_⟩;refine upd_loop (ι:=ι) (A:=A.in1) (by show A.handled=none;exact hh) (by simp only;exact Jl (.leaf _) 1 (.add (.add (.var 0) (.num 1)) (.num 8)) (.num 9900) [Ge 1 (.add (.var 0) (.num 30)) (.num 9900)] rfl hu) l 0 0 [] es [] _ e ?_ st.1 st.2 ?_ .nil (by simpa using hsz) ?_
 ·rw[List.drop_zero];exact q.mono (fun _ _ _ eb=>hk₂ _ _ eb) (Q3 _)
 ·exact⟨oo,eso,epo,G2 _ _ _ _ (hk₁ _ _ hoo),hco,hdo',heo,(fun r hr=>absurd hr (by simp)),hno⟩
 ·intro h' rows' tk' hd' hr' hkeep;refine⟨rfl,h h' rows' tk' hd' hr' fun b o eb=>hkeep b o ?_ ?_ (hk₂ b o eb)⟩
  ·exact Nat.ne_of_lt (Nat.lt_trans (Heap.lt_size eb) hlt)
  ·exact Nat.ne_of_lt (Heap.lt_size eb)
theorem max2_snd{a b:Int}{u v:Value}{Q:Value→Shared→Prop}(R:Rel prog w B σ ι s.heap)(rm:Yj A k)(hx:VR s.heap ι (.int a) u)(hy:VR s.heap ι (.int b) v)
 (h:Jp prog w B ι s (.int (if a<b then b else a)) σ Q):wpAny (model prog w) A (call (.builtin "max") [u,v]) Q E s:=by
 obtain⟨t,rfl⟩:=hx.int_inv;obtain⟨t',rfl⟩:=hy.int_inv;refine max_two_ints rm.h fun h' tk hk=>?_;by_cases hab:a<b
 ·rw[if_pos hab];rw[if_pos hab]at h;exact h.grown R (.int _ _) hk
 ·rw[if_neg hab];rw[if_neg hab]at h;exact h.grown R (.int _ _) hk
theorem min2_snd{a b:Int}{u v:Value}{Q:Value→Shared→Prop}(R:Rel prog w B σ ι s.heap)(rm:Yj A k)(hx:VR s.heap ι (.int a) u)(hy:VR s.heap ι (.int b) v)
 (h:Jp prog w B ι s (.int (if b<a then b else a)) σ Q):wpAny (model prog w) A (call (.builtin "min") [u,v]) Q E s:=by
 obtain⟨t,rfl⟩:=hx.int_inv;obtain⟨t',rfl⟩:=hy.int_inv;refine min_two_ints rm.h fun h' tk hk=>?_;by_cases hab:b<a
 ·rw[if_pos hab];rw[if_pos hab]at h;exact h.grown R (.int _ _) hk
 ·rw[if_neg hab];rw[if_neg hab]at h;exact h.grown R (.int _ _) hk
theorem abs_snd{a:Int}{u:Value}{Q:Value→Shared→Prop}(R:Rel prog w B σ ι s.heap)(hx:VR s.heap ι (.int a) u)
 (h:Jp prog w B ι s (.int a.natAbs) σ Q):wpAny (model prog w) A (call (.builtin "abs") [u]) Q E s:=by
 refine VR.intE hx fun t=>?_;refine call_abs_int fun u tk=>?_;have:(if a<0 then-a else a)=(a.natAbs:Int):=by split<;>lia
 rw[this];exact h.tok R _ (.int _ _)
theorem int_snd{a:Int}{u:Value}{Q:Value→Shared→Prop}(R:Rel prog w B σ ι s.heap)(hx:VR s.heap ι (.int a) u)
 (h:Jp prog w B ι s (.int a) σ Q):wpAny (model prog w) A (call (.type "int") [u]) Q E s:=by
 refine VR.intE hx fun t=>?_;exact call_int_int (h.here R (.int _ _))
theorem tuple_snd{n:Nat}{l:List V}{u:Value}{Q:Value→Shared→Prop}(R:Rel prog w B σ ι s.heap)(r:VR s.heap ι (.loc n) u)(e:Gn (.loc n) σ=some l)(hlim:l.length<lim)
 (h:Jp prog w B ι s (.tup l) σ Q):wpAny (model prog w) A (call (.type "tuple") [u]) Q E s:=by
 refine VR.locE r fun a ea=>?_;simp only[Gn]at e;split at e
 ·rename_i l' hl;simp only[Q1]at e;subst e;refine z22 (R.obs n _ a hl ea) fun vs m ev q=>?_;refine call_tuple_list (Ga ev) (fun h' hk=>?_) (by have:=J6 q;unfold lim at hlim;rw[this];rw[show sizeLine=_ from rfl];unfold sizeLine;exact Gh (.leaf _) 1 (.var 0) (.num 16777216) [Ge 1 (.var 0) (.num 100000)] rfl hlim);refine h ι _ _ (Ext.grown R fun b o eb=>G2 _ _ _ _ (hk b o eb)) (.tup (Qv _ rfl) ?_);exact q.mono (fun _ _ _ eb=>G2 _ _ _ _ (hk _ _ eb)) (Q3 _)
 ·cases e
theorem dict_snd{n:Nat}{o:Ob}{v:V}{σ':Sto}{u:Value}{Q:Value→Shared→Prop}(hbs:Bs prog B)(R:Rel prog w B σ ι s.heap)(rm:Yj A k)(r:VR s.heap ι (.loc n) u)(hl:σ[n]?=some o)(e:mkDict o σ=some (v,σ'))
 (h:Jp prog w B ι s v σ' Q):wpAny (model prog w) A (call (.type "dict") [u]) Q E s:=by
 refine VR.locE r fun a ea=>?_;have hu:=rm.u;cases o with
 |dict es=>
  refine cps fun qG qK=>?_;refine zA2 (Gz e) fun hlim e=>?_;have h:=h.si e;refine z12 (R.obs n _ a hl ea) fun Qy dd qq=>?_;refine qK ?_;have hlen:=qq.length;have hkeys:∀r∈Qy,r.1∈Jj:=fun r hr=>by
   have h1:r.1∈es.map (·.1):=by rw[qq.map_fst];exact Qj hr
   refine z12 (Qg h1) fun x hx hxe=>?_;rw[←hxe];exact List.contains_iff_mem.mp (Ql hlim.2 x hx)
  refine dict_copyH (R.notMod hbs hl ea rfl) dd (by have:=hlim.1;unfold lim at this;unfold sizeLine;exact Gh (G6 _ _) 1 (.var 0) (.num 16777216) [Ge 1 (.var 1) (.num 100000),Gp 1 (.var 0) (.var 1)] rfl hlim.1 (Eq.symm hlen)) hkeys fun h' hd hk=>?_;refine h (ι++[s.heap.objs.size]) _ _ (Ext.push (t:=s.toks) R (U3 _) hk ?_) (.loc (by rw[←R.len];simp));exact⟨Qy,hd,qq.mono (fun _ _ _ e=>hk _ _ e) ⟨_,rfl⟩⟩
 |list l=>
  refine cps fun qG qK=>?_;refine zA2 (Gz e) fun hlim e=>?_;refine bnE e fun es he e=>?_;have h:=h.si e;refine z22 (R.obs n _ a hl ea) fun vs m ev q=>?_;refine qK ?_;refine dict_pairsH rm.h (by exact Jl (G6 _ _) 1 (.add (.var 0) (.num 30)) (.num 9900) [Ge 1 (.add (.add (.var 0) (.mulL 3 (.var 1))) (.num 100)) (.num 9900)] rfl hu) ev q he (by unfold lim at hlim;unfold sizeLine;exact Gh (.leaf _) 1 (.var 0) (.num 16777216) [Ge 1 (.var 0) (.num 100000)] rfl hlim) fun h' Qy tk hd hr hk=>?_;refine h (ι++[s.heap.objs.size]) _ _ (Ext.push (t:=tk) R (U3 _) hk ?_) (.loc (by rw[←R.len];simp));exact⟨Qy,hd,hr.mono (fun _ _ _ e=>e) ⟨_,rfl⟩⟩
 |_=>cases e
theorem kas_go{α:Type}{lt:Nat→Nat→Option Bool}{cmp:Nat→Nat→(Bool→Shared→Prop)→Shared→Prop}{Q:α→Shared→Prop}(hc:∀i j b,lt i j=some b→∀C:Bool→Shared→Prop,C b s→cmp i j C s):
 ∀(t:KasT α) (p:α),Yz lt t=some p→Q p s→t.kasWp cmp Q s
 |.ret a,p,e,h=>by simp only[Yz,Q1]at e;subst e;exact h
 |.ask i j f,p,e,h=>by
  simp only[Yz]at e;split at e
  ·rename_i b hb;exact hc i j b hb _ (kas_go hc (f b) p e h)
  ·cases e
theorem lex_kat(R:Rel prog w B σ ι s.heap)(hB:∃o,B.get? sysModules=some o){d:Nat}(hA:A.units+d+1<cLine)(b:Bool){xs:List V}{us:List Value}(q1:VsR s.heap ι xs us):∀(ys:List V) (vs:List Value) (r:Bool) (i:Nat) (Q:Bool→Shared→Prop),
 ltList false (eqD (d+1) σ) (ltD false (d+1) σ) xs ys=some r→VsR s.heap ι ys vs→(b=true→i=0→(∃n l,xs=.int n::l)∧(∃n l,ys=.int n::l))→
 Q r s→KatLex prog w A b (decide (us.length<vs.length)) Q (us.zip vs) i s:=by
 have hA1:A.units+(d+1)<cLine:=hA;refine q1.ind (P:=fun xs us=>∀(ys:List V) (vs:List Value) (r:Bool) (i:Nat) (Q:Bool→Shared→Prop),ltList false (eqD (d+1) σ) (ltD false (d+1) σ) xs ys=some r→VsR s.heap ι ys vs→(b=true→i=0→(∃n l,xs=.int n::l)∧(∃n l,ys=.int n::l))→Q r s→KatLex prog w A b (decide (us.length<vs.length)) Q (us.zip vs) i s)
  (fun ys vs r i Q e q2 _ h=>?_) fun{x u xs us} a1 _ ih ys vs r i Q e q2 hb h=>?_
 ·cases ys with
  |nil=>
   have hv:vs=[]:=q2.fwd;subst hv;exact kat_nil (show Q false s from(show false=r from Option.some.inj e).symm▸h)
  |cons y ys=>exact z23 q2.fwd fun v t ev _ _=>by subst ev;exact kat_nil (show Q true s from(show true=r from Option.some.inj e).symm▸h)
 ·cases ys with
  |nil=>
   have hv:vs=[]:=q2.fwd;subst hv;exact kat_nil (show Q false s from(show false=r from Option.some.inj e).symm▸h)
  |cons y ys=>
   refine z23 q2.fwd fun v t ev a2 r2=>bnE e fun c he e=>?_;subst ev;rw[Qa,Qa,decide_eq_decide.mpr (Nat.add_lt_add_iff_right (n:=us.length) (m:=t.length) (k:=1))];refine kat_cons ((eqD_at R hB (d+1) A x y c u v hA1 he a1 a2).1 prog w _ _ ?_);cases c with
   |true=>exact kat_yes (ih ys t r (i+1) Q e r2 (fun _ h=>nomatch h) h)
   |false=>
    refine kat_no ?_;by_cases hbi:(b&&i==0)=true
    ·rw[hbi];have hbi:=Bool.and_eq_true_iff.mp hbi;refine zA2 (hb hbi.1 (eq_of_beq hbi.2)) fun h1 h2=>z21 h1 fun n l h1=>z21 h2 fun m l' h2=>?_;have e1:x=.int n:=(List.cons.inj h1).1;have e2:y=.int m:=(List.cons.inj h2).1;subst e1 e2;refine VR.intE a1 fun t=>VR.intE a2 fun t'=>?_;rw[←keyLt'_oneType];exact kat_lt_int ((show decide (n<m)=r from Option.some.inj e).symm▸h)
    ·rw[Bool.not_eq_true]at hbi;rw[hbi];exact kat_one _ _ (ltD_at R hB false (d+1) A x y r u v hA1 e a1 a2 prog w _ _ h)
theorem VsR.getD{h:Heap}{xs:List V}{vs:List Value}(q:VsR h ι xs vs)(i:Nat):VR h ι (xs.getD i .none) (vs.getD i .none):=by
 by_cases hi:i<xs.length
 ·refine z12 (q.get i xs[i] (Qe hi)) fun v hv r=>?_;rw[List.getD_eq_getElem?_getD,List.getD_eq_getElem?_getD,hv,Qe hi];exact r
 ·have hl:=q.length;rw[List.getD_eq_getElem?_getD,List.getD_eq_getElem?_getD,List.getElem?_eq_none (by exact Gh (G6 _ _) 1 (.var 0) (.var 1) [Gb 1 (.var 0) (.var 1)] rfl (Nat.not_lt.mp hi)),List.getElem?_eq_none (by exact Gh (Y6 _ _ _) 1 (.var 0) (.var 1) [Gb 1 (.var 2) (.var 1),Gp 1 (.var 0) (.var 2)] rfl (Nat.not_lt.mp hi) (Eq.symm hl))];exact .none
theorem VsR.pick{h:Heap}{xs:List V}{vs:List Value}(q:VsR h ι xs vs):∀p:List Nat,VsR h ι (p.map fun i=>xs.getD i .none) (p.map fun i=>vs.getD i .none)
 |[]=>.nil
 |i::p=>.cons (q.getD i) (q.pick p)
theorem tupInt_firsts{h:Heap}:∀{l:List V} {vs:List Value},VsR h ι l vs→l.all tupInt=true→∃fs,KatTups h vs fs∧fs.length=l.length∧∀v∈fs,Looks (model prog w) h (typeOf v) (.type "int")
 |[],_,.nil,_=>⟨[],KatTups.nil,rfl,fun v hv=>by cases hv⟩
 |x::l,_,.cons a r,e=>by
  simp only[List.all_cons,Qc]at e;refine z13 (tupInt_firsts r e.2) fun fs h1 h2 h3=>?_;unfold tupInt at e;split at e
  ·rename_i i t;refine VR.tupE a fun ad us n ev q _=>?_;generalize hus:us.toList=ul at q;cases q with
   |cons b c=>
   obtain⟨t',rfl⟩:=b.int_inv;refine⟨.int i t'::fs,KatTups.cons ev rfl rfl (by rw[←Array.getElem?_toList,hus];rfl) h1,by simp[h2],fun v hv=>?_⟩;rcases Q5 hv with rfl|hv
   ·exact Looks.of_pure rfl
   ·exact h3 v hv
  ·exact absurd e.1 (by simp)
theorem tupTup_firsts{h:Heap}:∀{l:List V} {vs:List Value},VsR h ι l vs→l.all tupTup=true→∃fs,KatTups h vs fs∧fs.length=l.length∧∀v∈fs,Looks (model prog w) h (typeOf v) (.type "tuple")
 |[],_,.nil,_=>⟨[],KatTups.nil,rfl,fun v hv=>by cases hv⟩
 |x::l,_,.cons a r,e=>by
  simp only[List.all_cons,Qc]at e;refine z13 (tupTup_firsts r e.2) fun fs h1 h2 h3=>?_;unfold tupTup at e;split at e
  ·rename_i i t;refine VR.tupE a fun ad us n ev q _=>?_;generalize hus:us.toList=ul at q;cases q with
   |cons b c=>
   refine cps fun qG qK=>?_;obtain⟨ad',us',n',rfl,ev',q'⟩:=b.tup_ref;refine qK ?_;refine⟨.ref ad'::fs,KatTups.cons ev rfl rfl (by rw[←Array.getElem?_toList,hus];rfl) h1,by simp[h2],fun v hv=>?_⟩;rcases Q5 hv with rfl|hv
   ·exact(show Looks (model prog w) h (typeOf (.ref ad')) (G4 us' n').cls from(Looks.ld ev').andThen .now)
   ·exact h3 v hv
  ·exact absurd e.1 (by simp)
theorem getD_case{P:V→Prop}{l:List V}(hl:∀x∈l,P x)(hn:P .none)(i:Nat):P (l.getD i .none):=by
 rw[List.getD_eq_getElem?_getD];cases h:l[i]? with
 |none=>exact hn
 |some x=>exact hl x (Qf h)
theorem sort_ask(R:Rel prog w B σ ι s.heap)(hB:∃o,B.get? sysModules=some o)(hA:A.units+12<cLine){l:List V}{vs:List Value}(q:VsR s.heap ι l vs)(b:Bool)(hl:∀x∈l,(b=true→tupInt x=true))(ht:∀x∈l,∃t,x=.tup t){i j:Nat}{c:Bool}
 (e:ltD false 8 σ (l.getD i .none) (l.getD j .none)=some c) {C:Bool→Shared→Prop} (h:C c s):kas_ask prog w A (tuples' b) vs i j C s:=by
 unfold kas_ask;have r1:=q.getD i;have r2:=q.getD j;have h1:∀i,(∃t,l.getD i V.none=.tup t)→b=true→∃n t,l.getD i V.none=.tup (.int n::t):=getD_case (P:=fun x=>(∃t,x=.tup t)→b=true→∃n t,x=.tup (.int n::t)) (fun x hm ht hb=>by
  have:=hl _ hm hb;unfold tupInt at this;split at this
  ·exact⟨_,_,rfl⟩
  ·cases this) (fun h=>z11 h fun _ h=>nomatch h)
 have h2:∀n,l.getD i V.none≠.int n:=getD_case (P:=fun x=>∀n,x≠.int n) (fun x hm n e=>z11 (ht _ hm) fun t h=>nomatch e.symm.trans h) (fun n h=>nomatch h) i;have g1:=h1 i;have g2:=h1 j;generalize l.getD i V.none=x at *;generalize l.getD j V.none=y at *;generalize vs.getD i Value.none=u at *;generalize vs.getD j Value.none=v at *;cases x with
 |tup xs=>
  refine bnE e fun ys hq e=>?_;have hy:=Yu hq;subst hy;refine VR.tupE r1 fun a1 us n1 e1 q1 _=>VR.tupE r2 fun a2 ws n2 e2 q2 _=>?_;exact kat_lt (b:=b) e1 rfl e2 rfl (lex_kat (A:=A) (d:=6) R hB (Nat.lt_of_le_of_lt (Nat.le_add_right (A.units+7) 5) hA) b q1 _ _ c 0 C e q2 (fun hb _=>z21 (g1 ⟨_,rfl⟩ hb) fun n t hx=>z21 (g2 ⟨_,rfl⟩ hb) fun m t' hy=>⟨⟨n,t,V.tup.inj hx⟩,⟨m,t',V.tup.inj hy⟩⟩) h)
 |int n=>exact absurd rfl (h2 n)
 |_=>exact nomatch e
theorem tup_of_int{x:V}(h:tupInt x=true):∃t,x=.tup t:=by
 unfold tupInt at h;split at h
 ·exact⟨_,rfl⟩
 ·cases h
theorem tup_of_tup{x:V}(h:tupTup x=true):∃t,x=.tup t:=by
 unfold tupTup at h;split at h
 ·exact⟨_,rfl⟩
 ·cases h
theorem sort_run(R:Rel prog w B σ ι s.heap)(hB:∃o,B.get? sysModules=some o)(hA:A.units+12<cLine){l l':List V}{vs:List Value}(q:VsR s.heap ι l vs)(h2:2≤l.length)(e:Yr σ l=some l'):
 l.length<60∧∃out,VsR s.heap ι l' out∧wpAny (model prog w) A (keyKind' vs.toArray) (fun κ s'=>s'=s∧(kas_sort vs.length).kasWp (kas_ask prog w A κ vs) (fun p s''=>s''=s∧p.toList.map (fun i=>vs.getD i Value.none)=out) s) (fun _ _=>False) s:=by
 unfold Yr at e;rw[if_neg (by exact Nat.not_lt.mpr (Gh (.leaf _) 1 (.num 2) (.var 0) [Gb 1 (.num 2) (.var 0)] rfl h2))]at e;split at e
 ·rename_i hc;refine⟨hc.1,?_⟩;rw[Option.map_eq_some_iff]at e;obtain⟨p,hp,rfl⟩:=e;refine⟨_,q.pick p.toList,?_⟩;rw[←q.length];have hor:=hc.2;rw[Bool.or_eq_true]at hor;rcases hor with hi|ht
  ·refine z13 (tupInt_firsts (prog:=prog) (w:=w) q hi) fun fs k1 k2 k3=>?_;refine kat_kind k1 (by exact Jl (G6 _ _) 1 (.num 0) (.var 0) [Gb 1 (.num 2) (.var 1),Gp 1 (.var 1) (.var 0)] rfl h2 (Eq.symm k2)) k3 (by decide) ?_;refine⟨rfl,?_⟩;rw[show(Value.type "int" !=Value.type "tuple")=true by decide];exact kas_go (fun i j c hc C hC=>sort_ask R hB hA q true (fun x hx _=>Ql hi x hx) (fun x hx=>tup_of_int (Ql hi x hx)) hc hC) _ p hp ⟨rfl,rfl⟩
  ·refine z13 (tupTup_firsts (prog:=prog) (w:=w) q ht) fun fs k1 k2 k3=>?_;refine kat_kind k1 (by exact Jl (G6 _ _) 1 (.num 0) (.var 0) [Gb 1 (.num 2) (.var 1),Gp 1 (.var 1) (.var 0)] rfl h2 (Eq.symm k2)) k3 (by decide) ?_;refine⟨rfl,?_⟩;rw[show(Value.type "tuple" !=Value.type "tuple")=false by decide];exact kas_go (fun i j c hc C hC=>sort_ask R hB hA q false (fun x hx h=>by cases h) (fun x hx=>tup_of_tup (Ql ht x hx)) hc hC) _ p hp ⟨rfl,rfl⟩
 ·cases e
theorem list_sort_snd(R:Rel prog w B σ ι s.heap)(hB:∃o,B.get? sysModules=some o)(hA:A.units+12<cLine){n:Nat}{a:Addr}{l l':List V}{P:PySem.Fin→Shared→Prop}(hl:σ[n]?=some (.list l))(ea:ι[n]?=some a)(e:Yr (σ.set n (.list [])) l=some l')
 (h:∀h',Ext (prog:=prog) (w:=w) B ι s (σ.set n (.list l')) ι {s with heap:=h'}→P (.done (.ret .none)) {s with heap:=h'}):
 wpAny (model prog w) A (Builtin.«list.sort» ⟨[.ref a],[]⟩) P E s:=by
 refine z22 (R.obs n _ a hl ea) fun vs m ev q=>?_;have hlen:l.length<60:=by
  unfold Yr at e;split at e
  ·lia
  ·split at e
   ·rename_i h;exact h.1
   ·cases e
 have hsz:=J6 q;have s1:=Heap.SameBut.update s.heap a (Obj.mapSeq fun _=>(#[]:Array Value));obtain⟨e1,ho1⟩:∃e1,(s.heap.update a (Obj.mapSeq fun _=>(#[]:Array Value))).get? a=some (J1 #[] e1):=⟨_,get?_update_seq (c:= "list") ev fun _=> #[]⟩
 have x1:Ext (prog:=prog) (w:=w) B ι s (σ.set n (.list [])) ι {s with heap:=s.heap.update a (Obj.mapSeq fun _=>(#[]:Array Value)),toks:=s.toks}:=Ext.upd R hl ea rfl rfl s1 ⟨#[],e1,ho1,.nil⟩;have x2:=x1.trans (Ext.grown (t:=s.toks) x1.rel (h':=((s.heap.update a (Obj.mapSeq fun _=>(#[]:Array Value))).push (G4 vs 0)).push (J1 #[] 0)) fun b o eb=>G2 _ _ _ _ (G2 _ _ _ _ eb));have q2:=q.ext R x2;have hl2:(σ.set n (.list []))[n]?=some (.list []):=List.getElem?_set_self (Q6 hl).1;have ho2:(((s.heap.update a (Obj.mapSeq fun _=>(#[]:Array Value))).push (G4 vs 0)).push (J1 #[] 0)).get? a=some (J1 #[] e1):=G2 _ _ _ _ (G2 _ _ _ _ ho1);have fin:∀out:List Value,VsR (((s.heap.update a (Obj.mapSeq fun _=>(#[]:Array Value))).push (G4 vs 0)).push (J1 #[] 0)) ι l' out→P (.done (.ret .none)) {s with heap:=(((s.heap.update a (Obj.mapSeq fun _=>(#[]:Array Value))).push (G4 vs 0)).push (J1 #[] 0)).update a (Obj.mapSeq fun _=>out.toArray)}:=fun out qo=>by
  have s3:=Heap.SameBut.update (((s.heap.update a (Obj.mapSeq fun _=>(#[]:Array Value))).push (G4 vs 0)).push (J1 #[] 0)) a (Obj.mapSeq fun _=>out.toArray);have ho3:=get?_update_seq (c:= "list") ho2 fun _=>out.toArray;have x3:=x2.trans (Ext.upd (t:=s.toks) x2.rel (o':=.list l') hl2 ea rfl rfl s3 ⟨out.toArray,_,ho3,by
   rw[List.toList_toArray];exact qo.mono (fun b vs n eb=>(s3.2 b fun hh=>by subst hh;rw[ho2]at eb;exact Yt (Option.some.inj eb)).trans eb) (Q3 _)⟩)
  rw[List.set_set]at x3;exact h _ x3
 rw[list_sort_plain];refine Qt (listItems_at ev rfl ?_);refine Qt (listUpdate_at ev rfl ?_ (by unfold sizeLine;exact Gh (G6 _ _) 1 (.var 0) (.num 16777216) [Ge 1 (.var 1) (.num 60),Gp 1 (.var 0) (.var 1)] rfl hlen hsz) (Nat.zero_le _));refine Qt (seqEpoch_at ho1 rfl ?_);refine Qt (wpAny_newTuple ?_ (by rw[Array.length_toList];unfold sizeLine;exact Gh (G6 _ _) 1 (.var 0) (.num 16777216) [Ge 1 (.var 1) (.num 60),Gp 1 (.var 0) (.var 1)] rfl hlen hsz));refine Qt (wpAny_newList ?_ (Nat.zero_le _));refine wpAny_holding ?_;show wpAny (model prog w) A _ P E {s with heap:=((s.heap.update a (Obj.mapSeq fun _=>(#[]:Array Value))).push (G4 vs 0)).push (J1 #[] 0)};dsimp only;by_cases h2:l.length<2
 ·have hn:vs.size<2:=by exact Jl (G6 _ _) 1 (.var 0) (.num 2) [Gp 1 (.var 0) (.var 1),Ge 1 (.var 1) (.num 2)] rfl hsz h2
  rw[if_pos hn,if_pos hn];refine Qt (Qu ?_);refine Qt (Qu ?_);dsimp only;refine Qt (seqEpoch_at ho2 rfl ?_);have hout:(arrOf (SortSt.mk' general' (vs.zip vs) #[] 7 none)).map (·.2)=vs:=by
   show(vs.zip vs).map (·.2)=vs;apply Array.toList_inj.mp;rw[Array.toList_map,Array.toList_zip];rw[List.map_snd_zip];exact Qs _
  rw[hout];have hle:l'=l:=by
   unfold Yr at e;rw[if_pos h2]at e;exact(Option.some.inj e).symm
  have:=fin vs.toList (by rw[hle];exact q2);refine Qt (listUpdate_at ho2 rfl ?_ (Nat.zero_le _) (by unfold sizeLine;exact Gh (G6 _ _) 1 (.var 0) (.add (.num 16777216) (.num 1)) [Ge 1 (.var 1) (.num 60),Gp 1 (.var 0) (.var 1)] rfl hlen hsz));simp only[bne_self_eq_false,Qq,if_false];exact Qu (by simpa using this)
 ·have hn:¬vs.size<2:=by exact Nat.not_lt.mpr (Gh (G6 _ _) 1 (.num 2) (.var 0) [Gp 1 (.var 1) (.var 0),Gb 1 (.num 2) (.var 1)] rfl (Eq.symm hsz) (Nat.not_lt.mp h2))
  rw[if_neg hn,if_neg hn];refine cps fun qG qK=>?_;obtain⟨-,out,qo,hk⟩:=sort_run (A:=A) (s:={s with heap:=((s.heap.update a (Obj.mapSeq fun _=>(#[]:Array Value))).push (G4 vs 0)).push (J1 #[] 0)}) x2.rel hB hA q2 (by exact Gh (.leaf _) 1 (.num 2) (.var 0) [Gb 1 (.num 2) (.var 0)] rfl (Nat.not_lt.mp h2)) e;refine qK ?_;have hlv:vs.toList.length=l.length:=by rw[Array.length_toList];exact hsz
  rw[Array.toArray_toList]at hk;refine Qt (wpAny_mono hk (fun κ s0 hk=>?_) fun _ _ x=>x.elim);obtain⟨rfl,hk⟩:=hk;have hvz:vs.zip vs=vs.toList.toArray.zip vs.toList.toArray:=by rw[Array.toArray_toList]
  rw[hvz];refine Qt (wpAny_mono (kat_run (Q:=fun st' s'=>s'={s with heap:=((s.heap.update a (Obj.mapSeq fun _=>(#[]:Array Value))).push (G4 vs 0)).push (J1 #[] 0)}∧(arrOf st').map (·.2)=out.toArray∧failedOf st'=none∧out.length=vs.toList.length)
   rfl (by exact Gh (G6 _ _) 1 (.num 2) (.var 0) [Gb 1 (.num 2) (.var 1),Gp 1 (.var 1) (.var 0)] rfl (Nat.not_lt.mp h2) (Eq.symm hlv)) (by exact Jl (G6 _ _) 1 (.var 0) (.num 64) [Ge 1 (.var 1) (.num 60),Gp 1 (.var 0) (.var 1)] rfl hlen hlv) (fun p' st' s' a1 a2 a3 a4=>⟨a4.1,?_,a3,by rw[←a4.2,Qi,Array.length_toList,a1]⟩) hk) ?_ fun _ _ e=>e)
  ·rw[kat_snds rfl a2,a4.2]
  rintro⟨⟨⟩,st'⟩ s' ⟨rfl,hout,hf,hol⟩;dsimp only;rw[hout];refine Qt (seqEpoch_at ho2 rfl ?_);refine Qt (listUpdate_at ho2 rfl ?_ (Nat.zero_le _) (by rw[List.size_toArray];unfold sizeLine;exact Gh (Y6 _ _ _) 1 (.var 0) (.add (.num 16777216) (.num 1)) [Ge 1 (.var 1) (.num 60),Gp 1 (.var 2) (.var 1),Gp 1 (.var 0) (.var 2)] rfl hlen hlv hol));rw[hf];simp only[bne_self_eq_false,Qq,if_false];exact Qu (fin out qo)
theorem sorted_snd{n:Nat}{l l':List V}{u:Value}{Q:Value→Shared→Prop}(R:Rel prog w B σ ι s.heap)(hB:∃o,B.get? sysModules=some o)(rm:Yj A k)(r:VR s.heap ι (.loc n) u)(e:Gn (.loc n) σ=some l)(he:Yr (σ++[.list []]) l=some l')
 (h:Jp prog w B ι s (.loc σ.length) (σ++[.list l']) Q):wpAny (model prog w) A (call (.builtin "sorted") [u]) Q E s:=by
 refine VR.locE r fun a ea=>?_;have hu:=rm.u;have hlen:l.length<60:=by
  unfold Yr at he;split at he
  ·lia
  ·split at he
   ·rename_i h;exact h.1
   ·cases he
 simp only[Gn]at e;split at e
 ·rename_i l₀ hl;simp only[Q1]at e;subst e;refine cps fun qG qK=>?_;obtain⟨vs,m,ev,q⟩:=R.obs n _ a hl ea;refine qK ?_;have hsz:=J6 q;have hlv:vs.toList.length=l₀.length:=by rw[Array.length_toList];exact hsz
  have hIs:s.heap.IsList a vs.toList.toArray:=by rw[Array.toArray_toList];exact Ga ev
  refine Calls.call_function_entry kind_sorted plain_sorted entry_sorted (args_sorted1 _) ?_;unfold Builtin.«sorted»;refine Qt (m:=checkCount "sorted" 1 1 _) (Qu ?_);refine Qt (collect_list hIs ?_ (by unfold sizeLine;exact Gh (G6 _ _) 1 (.var 0) (.num 16777216) [Ge 1 (.var 1) (.num 60),Gp 1 (.var 0) (.var 1)] rfl hlen hlv));refine Qt (wpAny_newList ?_ (by unfold sizeLine;exact Gh (G6 _ _) 1 (.var 0) (.num 16777216) [Ge 1 (.var 1) (.num 60),Gp 1 (.var 0) (.var 1)] rfl hlen hlv));have keep0:∀b o,s.heap.get? b=some o→((s.heap.push (seqObj "list" #[] 0)).update s.heap.objs.size (Obj.mapSeq (· ++vs.toList.toArray))).get? b=some o:=fun b o eb=>by
   rw[Heap.get?_update_ne _ _ _ _ (Nat.ne_of_lt (Heap.lt_size eb))];exact G2 _ _ _ _ eb
  have x1:Ext (prog:=prog) (w:=w) B ι s σ ι {s with heap:=(s.heap.push (seqObj "list" #[] 0)).update s.heap.objs.size (Obj.mapSeq (· ++vs.toList.toArray)),toks:=s.toks}:=Ext.grown R keep0;generalize ((s.heap.push (seqObj "list" #[] 0)).update s.heap.objs.size (Obj.mapSeq (· ++vs.toList.toArray)))=h₁ at *;have q1:=q.ext R x1;have hget:(h₁.push (J1 vs 0)).get? h₁.objs.size=some (J1 vs 0):=Qv _ rfl;have x2:Ext (prog:=prog) (w:=w) B ι s (σ++[.list l₀]) (ι++[h₁.objs.size]) {s with heap:=h₁.push (J1 vs 0),toks:=s.toks}:=
   x1.trans (Ext.push (t:=s.toks) x1.rel (U3 _) (G2 _ _) ⟨vs,0,hget,q1.mono (fun _ _ _ e=>G2 _ _ _ _ e) ⟨_,rfl⟩⟩)
  have ei:(ι++[h₁.objs.size])[σ.length]?=some h₁.objs.size:=by rw[←R.len];simp
  have es:(σ++[Ob.list l₀])[σ.length]?=some (Ob.list l₀):=by simp
  have eset:∀o,(σ++[Ob.list l₀]).set σ.length o=σ++[o]:=fun o=>by simp
  show wpAny _ _ _ _ _ {s with heap:=h₁.push (J1 vs.toList.toArray 0)};rw[Array.toArray_toList];refine Qt (wpAny_holding (wpAny_call_entry slot_list_sort (T:= "list") ⟨_,hget,rfl⟩ entry_list_sort ?_ (args_list_sort _)));refine list_sort_snd (s:={s with heap:=h₁.push (J1 vs 0)}) (A:=A.in1.in1) x2.rel hB (by simp only;exact Jl (G6 _ _) 1 (.add (.add (.add (.var 0) (.num 1)) (.num 1)) (.num 12)) (.num 9900) [Ge 1 (.add (.add (.var 0) (.mulL 3 (.var 1))) (.num 100)) (.num 9900)] rfl hu) es ei (by rw[eset];exact he) fun h' x3=>?_;rw[eset]at x3;refine⟨_,rfl,Qu ⟨_,rfl,?_⟩⟩;exact h _ _ _ (x2.trans x3) (.loc ei)
 ·cases e
noncomputable def methName:Meth→Str
 |.append=>Str.ofString "append" |.extend=>Str.ofString "extend" |.pop=>Str.ofString "pop" |.reverse=>Str.ofString "reverse" |.sort=>Str.ofString "sort"
noncomputable def methId:Meth→String
 |.append=> "list.append" |.extend=> "list.extend" |.pop=> "list.pop" |.reverse=> "list.reverse" |.sort=> "list.sort"
theorem list_upd(R:Rel prog w B σ ι s.heap){n:Nat}{a:Addr}{l l':List V}{vs:Array Value}{m:Nat}{f:Array Value→Array Value}{v:V}{u:Value}{Q:Value→Shared→Prop}(hl:σ[n]?=some (.list l))(ea:ι[n]?=some a)(ev:s.heap.get? a=some (J1 vs m))
 (q:VsR s.heap ι l' (f vs).toList) (hv:VR s.heap ι v u) (h:Jp prog w B ι s v (σ.set n (.list l')) Q):Q u {s with heap:=s.heap.update a (Obj.mapSeq f),toks:=s.toks}:=by
 have s1:=Heap.SameBut.update s.heap a (Obj.mapSeq f);have ho1:=get?_update_seq (c:= "list") ev f;have ht:∀b vs n,s.heap.get? b=some (G4 vs n)→(s.heap.update a (Obj.mapSeq f)).get? b=some (G4 vs n):=fun b vs n eb=>(s1.2 b fun hh=>by subst hh;rw[ev]at eb;exact Yt (Option.some.inj eb)).trans eb;exact h ι _ u (Ext.upd R hl ea rfl rfl s1 ⟨f vs,_,ho1,q.mono ht (Q3 _)⟩) (hv.mono ht (Q3 _))
section
variable{n:Nat}{l args:List V}{v:V}{σ':Sto}{u:Value}{us:List Value}{Q:Value→Shared→Prop}
theorem VsR.nil0{h:Heap}{us:List Value}(r:VsR h ι [] us):us=[]:=r.fwd
theorem VsR.one{h:Heap}{x:V}{us:List Value}(r:VsR h ι [x] us):∃u,us=[u]∧VR h ι x u:=z23 r.fwd fun v t e a b=>⟨v,b.nil0▸e,a⟩
theorem VsR.two{h:Heap}{x y:V}{us:List Value}(r:VsR h ι [x,y] us):∃u v,us=[u,v]∧VR h ι x u∧VR h ι y v:=z23 r.fwd fun v t e a b=>z12 b.one fun u e' c=>⟨v,u,e'▸e,a,c⟩
theorem append_snd(R:Rel prog w B σ ι s.heap)(hl:σ[n]?=some (.list l))(r:VR s.heap ι (.loc n) u)(ra:VsR s.heap ι args us)(e:methL .append n l args σ=some (v,σ'))(h:Jp prog w B ι s v σ' Q):wpAny (model prog w) A (call (.builtin "list.append") (u::us)) Q E s:=by
 obtain⟨a,rfl,ea⟩:=r.loc_ref;obtain⟨vs,c,ev,q⟩:=R.obs n _ a hl ea;have hsz:=J6 q;refine bnE e fun x hx e=>?_;obtain⟨hlim,e⟩:=Gz e;have h:=h.si e;rw[one1_inv hx]at ra;obtain⟨y,rfl,b1⟩:=ra.one;unfold lim at hlim;refine call_meets F.slot_list_append ⟨_,ev,rfl⟩ F.entry_list_append (F.args_list_append_2 _ _) (PySem.list_append a vs c _ (by unfold sizeLine;exact Gh (G6 _ _) 1 (.var 0) (.num 16777216) [Gp 1 (.var 0) (.var 1),Ge 1 (.var 1) (.num 100000)] rfl hsz hlim)) ⟨ev,list_upd R hl ea ev ?_ .none h⟩;rw[Array.toList_push];exact q.append (.cons b1 .nil)
theorem extend_snd(R:Rel prog w B σ ι s.heap)(hl:σ[n]?=some (.list l))(r:VR s.heap ι (.loc n) u)(ra:VsR s.heap ι args us)(e:methL .extend n l args σ=some (v,σ'))(h:Jp prog w B ι s v σ' Q):wpAny (model prog w) A (call (.builtin "list.extend") (u::us)) Q E s:=by
 obtain⟨a,rfl,ea⟩:=r.loc_ref;obtain⟨vs,c,ev,q⟩:=R.obs n _ a hl ea;have hsz:=J6 q;refine bnE e fun x hx e=>?_;refine bnE e fun k hk e=>?_;refine bnE e fun r₀ hr e=>?_;obtain⟨hlim,e⟩:=Gz e;have h:=h.si e;rw[one1_inv hx,asL_inv hk]at ra;obtain⟨y,rfl,b1⟩:=ra.one;refine VR.locE b1 fun b eb=>?_;refine cps fun qG qK=>?_;obtain⟨ws,d,ew,qw⟩:=R.obs _ _ b (asLst_inv hr) eb;refine qK ?_;have hsw:=J6 qw;have h2:=hlim.2;unfold lim at h2;refine call_meets F.slot_list_extend ⟨_,ev,rfl⟩ F.entry_list_extend (F.args_list_extend_2 _ _) (AutoSeq1.list_extend_list_list_0 a vs c b ws d ?_ (by unfold sizeLine;exact Gh (Y6 _ _ _) 1 (.var 0) (.num 16777216) [Gp 1 (.var 0) (.var 1),Ge 1 (.add (.var 1) (.var 2)) (.num 100000)] rfl hsz hlim.2) (by unfold sizeLine;exact Gh (lctx4 _ _ _ _) 1 (.add (.var 0) (.var 1)) (.add (.num 16777216) (.num 1)) [Gp 1 (.var 0) (.var 2),Ge 1 (.add (.var 2) (.var 3)) (.num 100000),Gp 1 (.var 1) (.var 3)] rfl hsz hlim.2 hsw)) ⟨ev,ew,list_upd R hl ea ev ?_ .none h⟩
 ·unfold Builtin.List.listTooLong sizeLine;simp;lia
 ·rw[Array.toList_append];exact q.append qw
theorem pop_snd(R:Rel prog w B σ ι s.heap)(hl:σ[n]?=some (.list l))(r:VR s.heap ι (.loc n) u)(ra:VsR s.heap ι args us)(e:methL .pop n l args σ=some (v,σ'))(h:Jp prog w B ι s v σ' Q):wpAny (model prog w) A (call (.builtin "list.pop") (u::us)) Q E s:=by
 obtain⟨a,rfl,ea⟩:=r.loc_ref;obtain⟨vs,c,ev,q⟩:=R.obs n _ a hl ea;have hsz:=J6 q;cases args with
 |nil=>
  obtain⟨hlim,e⟩:=Gz e;refine bnE e fun x hx e=>?_;have h:=h.si e;unfold lim at hlim;obtain rfl:=ra.nil0;rw[List.getLast?_eq_getElem?]at hx;obtain⟨y,hy,ry⟩:=q.get _ _ hx;have hne:=(Q6 hx).1;refine call_meets F.slot_list_pop ⟨_,ev,rfl⟩ F.entry_list_pop (F.args_list_pop_1 _) (MeetsSeq.list_pop_last a vs c y (by rw[hsz,←Array.getElem?_toList];exact hy) (by unfold sizeLine;exact Gh (G6 _ _) 1 (.var 0) (.num 16777216) [Gp 1 (.var 0) (.var 1),Ge 1 (.var 1) (.num 100000)] rfl hsz hlim)) ⟨ev,list_upd R hl ea ev ?_ ry h⟩;have:(vs.eraseIdxIfInBounds (vs.size-1)).toList=vs.toList.take (l.length-1):=by
   unfold Array.eraseIdxIfInBounds;rw[dif_pos (by lia),Array.toList_eraseIdx,List.eraseIdx_eq_take_drop_succ,List.drop_of_length_le (by rw[Array.length_toList];lia),Qp,hsz]
  rw[this,List.dropLast_eq_take];exact q.take _
 |cons i r=>
  refine bnE e fun i hi e=>?_;obtain rfl:=Yd hi;cases l with
  |nil=>cases e
  |cons x l₀=>
   obtain⟨hlim,e⟩:=Gz e;have h:=h.si e;obtain⟨⟨rfl,rfl⟩,hlim⟩:=hlim;unfold lim at hlim;obtain⟨y,rfl,b1⟩:=ra.one;refine VR.intE b1 fun t=>?_;simp only[Qa]at hsz;generalize hvl:vs.toList=vl at q;cases q with
   |cons c1 c2=>
   rename_i y ys;refine call_meets F.slot_list_pop ⟨_,ev,rfl⟩ F.entry_list_pop (F.args_list_pop_2 _ _) (MeetsSeq.list_pop_at a vs c 0 t 0 y (by decide) ?_ (by rw[←Array.getElem?_toList,hvl];rfl) (by unfold sizeLine;exact Gh (G6 _ _) 1 (.var 0) (.num 16777216) [Gp 1 (.var 0) (.add (.var 1) (.num 1)),Ge 1 (.var 1) (.num 100000)] rfl hsz hlim)) ⟨ev,list_upd R hl ea ev ?_ c1 h⟩
   ·show(if(decide ((0:Int)≤0)&&decide ((0:Int)<(vs.size:Int)))=true then some (0:Int).toNat else none)=some 0;rw[decide_eq_true (show(0:Int)<(vs.size:Int) by lia)];rfl
   ·have:(vs.eraseIdxIfInBounds 0).toList=ys:=by
     unfold Array.eraseIdxIfInBounds;rw[dif_pos (by lia),Array.toList_eraseIdx,hvl];rfl
    rw[this];exact c2
end
theorem meth_list_snd{m:Meth}{n:Nat}{l:List V}{args:List V}{v:V}{σ':Sto}{u:Value}{us:List Value}{Q:Value→Shared→Prop}(R:Rel prog w B σ ι s.heap)(hB:∃o,B.get? sysModules=some o)(rm:Yj A k)(hl:σ[n]?=some (.list l))(r:VR s.heap ι (.loc n) u)
 (ra:VsR s.heap ι args us) (e:methL m n l args σ=some (v,σ')) (h:Jp prog w B ι s v σ' Q):wpAny (model prog w) A (call (.builtin (methId m)) (u::us)) Q E s:=by
 cases m with
 |append=>exact append_snd R hl r ra e h
 |extend=>exact extend_snd R hl r ra e h
 |pop=>exact pop_snd R hl r ra e h
 |reverse=>
  obtain⟨a,rfl,ea⟩:=r.loc_ref;obtain⟨vs,c,ev,q⟩:=R.obs n _ a hl ea;have hsz:=J6 q;obtain⟨hlim,e⟩:=Gz e;have h:=h.si e;obtain⟨rfl,hlim⟩:=hlim;unfold lim at hlim;obtain rfl:=ra.nil0;refine call_meets F.slot_list_reverse ⟨_,ev,rfl⟩ F.entry_list_reverse (F.args_list_reverse_1 _) (AutoSeq1.list_reverse_list_0 a vs c (by unfold sizeLine;exact Gh (G6 _ _) 1 (.var 0) (.num 16777216) [Gp 1 (.var 0) (.var 1),Ge 1 (.var 1) (.num 100000)] rfl hsz hlim)) ⟨ev,list_upd R hl ea ev ?_ .none h⟩;rw[Array.toList_reverse];exact q.reverse
 |sort=>
  refine VR.locE r fun a ea=>?_;have hu:=rm.u;obtain⟨vs,c,ev,q⟩:=R.obs n _ a hl ea;obtain⟨h0,e⟩:=Gz e;refine bnE e fun l' hs e=>?_;have h:=h.si e;subst h0;obtain rfl:=ra.nil0;refine wpAny_call_entry slot_list_sort ⟨_,ev,rfl⟩ entry_list_sort (list_sort_snd (A:=A.in1) R hB (by simp only;exact Jl (G6 _ _) 1 (.add (.add (.var 0) (.num 1)) (.num 12)) (.num 9900) [Ge 1 (.add (.add (.var 0) (.mulL 3 (.var 1))) (.num 100)) (.num 9900)] rfl hu) hl ea hs fun h' x=>?_) (args_list_sort _);exact⟨_,rfl,h _ _ _ x .none⟩
end
section
variable{prog:Program}{w:World}{A:Around}{E:Value→Shared→Prop}{B:Bas}{σ:Sto}{ι:List Addr}{s:Shared}{k:Nat}
theorem J9.del{h:Heap}{es:List (List Int×V)}{Qy:List (List Int×Addr×Value)}(r:J9 h ι es Qy):∀(j:Nat) (key:List Int) (p:Addr×Value),(Qy.map (·.1)).Nodup→Qy[j]?=some (key,p)→J9 h ι (ddel es key) (Qy.eraseIdx j):=by
 induction r with
 |nil=>intro j key p _ e;simp at e
 | @cons k' x a v es' rows' q hx hr ih=>
  intro j key p hn e;simp only[Q7,List.nodup_cons]at hn;cases j with
  |zero=>
   simp only[List.getElem?_cons_zero,Q1,Prod.mk.injEq]at e;obtain⟨rfl,rfl⟩:=e;simp only[ddel,if_true,List.eraseIdx_cons_zero];exact hr
  |succ j=>
   simp only[List.getElem?_cons_succ]at e;have hne:k'≠key:=fun h=>hn.1 (by rw[h];exact Qj (f:=(·.1)) (Qf e));simp only[ddel,hne,if_false,List.eraseIdx_cons_succ];exact .cons q hx (ih j key p hn.2 e)
theorem map_erase{α β:Type}(f:α→β):∀(l:List α) (j:Nat),(l.map f).eraseIdx j=(l.eraseIdx j).map f
 |[],_=>rfl
 |_::_,0=>rfl
 |a::l,j+1=>by simp[map_erase f l j]
theorem takeOutH{d a:Addr}{Qy:List (List Int×Addr×Value)}{key:List Int}{Q:Option DictEntry→Shared→Prop}(hu:A.units<cLine)(hkey:(KK prog w).is s.heap key a)(hm:s.heap.DictOfH (KK prog w) d Qy)(hsz:Qy.length≤sizeLine)
 (hnone:(∀(j:Nat) (p:Addr×Value),Qy[j]?≠some (key,p))→∀tk,Q none {s with toks:=tk})
 (hsome:∀(j:Nat) (p:Addr×Value),Qy[j]?=some (key,p)→∀(h':Heap) (tk:Nat),h'.DictOfH (KK prog w) d (Qy.eraseIdx j)→Heap.SameBut d s.heap h'→Q (some (entryOfKey (KK prog w) (key,p))) {s with heap:=h',toks:=tk}):
 wpAny (model prog w) A (Builtin.Dict.takeOut d (.ref a)) Q E s:=by
 refine cps fun qG qK=>?_;obtain⟨o,es,ep,ho,hc,hd,he,hi,hn⟩:=hm;refine qK ?_;have hes:es.size≤sizeLine:=by rw[size_of_entries he];exact hsz
 unfold Builtin.Dict.takeOut;refine wpAny_holding ?_;refine Qt ((KK prog w).pyHash hu hkey ?_);refine Qt (wpAny_dictFind_heap (s:={s with toks:=s.toks+(KK prog w).draws key}) (knd:=KK prog w) hu hkey ho hd he hi hn ?_ ?_)
 ·intro hno;exact Qu (hnone hno _)
 ·intro j p hj;refine Qt (wpAny_dictEntries (s:={s with toks:=s.toks+(KK prog w).draws key}) ho hd ?_);rw[entry_at he j,hj];refine Qt (wpAny_updateDictKeys (hz:=hes) (s:={s with toks:=s.toks+(KK prog w).draws key}) ho hd (Qu (hsome j p hj _ _ ⟨_,_,ep+1,Heap.get?_update_self _ ho (Obj.isFreed_of_dict (Obj.data_mapDictKeys hd _)),
   hc.mapDictKeys _,Obj.data_mapDictKeys hd _,?_,fun x hx=>?_,?_⟩ (Heap.SameBut.update ..))))
  ·have hj':j<es.size:=by rw[size_of_entries he];exact(Q6 hj).1
   unfold Array.eraseIdxIfInBounds;rw[dif_pos hj',Array.toList_eraseIdx,he,map_erase]
  ·exact(KK prog w).keeps (hi x (List.mem_of_mem_eraseIdx hx)) ho hd (Heap.SameBut.update ..)
  ·rw[←map_erase];exact hn.sublist (List.eraseIdx_sublist _ _)
theorem dict_popH{d a:Addr}{Qy:List (List Int×Addr×Value)}{key:List Int}{rest:List Value}{Q:Value→Shared→Prop}(hrest:rest=[]∨rest=[.none])(hu:A.units+8<cLine)(hd0:(d==sysModules)=false)(hkey:(KK prog w).is s.heap key a)(hm:s.heap.DictOfH (KK prog w) d Qy)(hsz:Qy.length≤sizeLine)
 (hnone:(∀(j:Nat) (p:Addr×Value),Qy[j]?≠some (key,p))→rest=[.none]∧∀tk,Q .none {s with toks:=tk})
 (hsome:∀(j:Nat) (p:Addr×Value),Qy[j]?=some (key,p)→∀(h':Heap) (tk:Nat),h'.DictOfH (KK prog w) d (Qy.eraseIdx j)→Heap.SameBut d s.heap h'→Q p.2 {s with heap:=h',toks:=tk}):
 wpAny (model prog w) A (call (.builtin "dict.pop") (.ref d::.ref a::rest)) Q E s:=by
 have hT:s.TypeIs (.ref d) "dict" :=hm.typeIs;obtain⟨o,es,ep,ho,hc,hd,he,hi,hn⟩:=id hm;have main:∀dflt:Option Value,(rest=[]∧dflt=none)∨(rest=[.none]∧dflt=some .none)→
  wpAny (model prog w) A.in1 (do
   let empty ←if(keyPart (.ref a)).isSome then pure false else do pure (←dictEntries d).isEmpty
   let old ←if empty then rule "dict.pop.empty";pure none else Builtin.Dict.takeOut d (.ref a)
   if old.isNone then Builtin.Dict.missedRemoval d (.ref a)
   match old,dflt with
   |some e,_=>letGo [e.key] [e.val];ret e.val
   |none,some x=>rule "dict.pop.default";ret x
   |none,none=>rule "dict.pop.keyerror";raiseNew (←newExc (.type "KeyError") [.ref a])) (fun fin s'=>∃v,fin=.done (.ret v)∧Q v s') E s:=by
  intro dflt hdf;have hmiss:(∀(j:Nat) (p:Addr×Value),Qy[j]?≠some (key,p))→∀tk,wpAny (model prog w) A.in1 (do
   if(none:Option DictEntry).isNone then Builtin.Dict.missedRemoval d (.ref a)
   match(none:Option DictEntry),dflt with
   |some e,_=>letGo [e.key] [e.val];ret e.val
   |none,some x=>rule "dict.pop.default";ret x
   |none,none=>rule "dict.pop.keyerror";raiseNew (←newExc (.type "KeyError") [.ref a])) (fun fin s'=>∃v,fin=.done (.ret v)∧Q v s') E {s with toks:=tk}:=by
   intro hno tk;refine zA2 (hnone hno) fun h1 h2=>?_;rcases hdf with⟨h3,_⟩|⟨_,rfl⟩
   ·rw[h1]at h3;cases h3
   simp only[Option.isNone_none,if_true];refine Qt (wpAny_missedRemoval_other hd0 ?_);exact Qt (wpAny_rule (Qu ⟨_,rfl,h2 tk⟩))
  rw[if_neg (by simp[keyPart])];refine Qt (wpAny_dictEntries ho hd (Qt (Qu ?_)));dsimp only;split
  ·rename_i hemp;have hrows:Qy=[]:=by
    have:es.toList=[]:=by rw[Array.isEmpty_iff.mp hemp]
    rw[he]at this;simpa using this
   refine Qt (Qt (wpAny_rule (Qu ?_)));exact hmiss (fun j p=>by rw[hrows];simp) s.toks
  ·refine Qt (takeOutH (A:=A.in1) (by simp only;exact Jl (.leaf _) 1 (.add (.var 0) (.num 1)) (.num 9900) [Ge 1 (.add (.var 0) (.num 8)) (.num 9900)] rfl hu) hkey hm hsz (fun hno tk=>hmiss hno tk) fun j p hj h' tk hm' hs'=>?_);simp only[Option.isNone_some,Qq,if_false];exact Qt (wpAny_letGo (Qu ⟨_,rfl,hsome j p hj h' tk hm' hs'⟩))
 rcases hrest with rfl|rfl
 ·refine wpAny_call_entry F.slot_dict_pop hT F.entry_dict_pop ?_ (F.args_dict_pop_2 _ _);unfold Builtin.«dict.pop»;refine Qt ?_;unfold Builtin.Dict.keyAndDefault;refine Qt (wpAny_notOrdered_dict hT ?_);show wpAny _ _ (pure (d,Value.ref a,none)) _ _ s;exact Qu (main none (.inl ⟨rfl,rfl⟩))
 ·refine wpAny_call_entry F.slot_dict_pop hT F.entry_dict_pop ?_ (F.args_dict_pop_3 _ _ _);unfold Builtin.«dict.pop»;refine Qt ?_;unfold Builtin.Dict.keyAndDefault;refine Qt (wpAny_notOrdered_dict hT ?_);show wpAny _ _ (pure (d,Value.ref a,some Value.none)) _ _ s;exact Qu (main (some .none) (.inr ⟨rfl,rfl⟩))
theorem dict_pop_snd{n:Nat}{es:List (List Int×V)}{args:List V}{v:V}{σ':Sto}{u:Value}{us:List Value}{Q:Value→Shared→Prop}(hbs:Bs prog B)(R:Rel prog w B σ ι s.heap)(rm:Yj A k)(hl:σ[n]?=some (.dict es))(r:VR s.heap ι (.loc n) u)
 (ra:VsR s.heap ι args us) (e:methD n es args σ=some (v,σ')) (h:Jp prog w B ι s v σ' Q):wpAny (model prog w) A (call (.builtin "dict.pop") (u::us)) Q E s:=by
 refine VR.locE r fun a ea=>?_;have hu:=rm.u;refine z12 (R.obs n _ a hl ea) fun Qy dd qq=>?_;have hlen:=qq.length;have hn:=DictOfH.nodup dd;have noneOf:∀key,Ue es key=none→∀(j:Nat) (p:Addr×Value),Qy[j]?≠some (key,p):=fun key hk j p hj=>by
  rcases qq.atKey key with⟨_,h2⟩|⟨x,p',h1,_⟩
  ·rw[PySem.atKey_of_get hn hj]at h2;cases h2
  ·rw[hk]at h1;cases h1
 have someOf:∀key x,Ue es key=some x→∃(j:Nat) (p:Addr×Value),Qy[j]?=some (key,p):=fun key x hk=>by
  rcases qq.atKey key with⟨h1,_⟩|⟨x',p',h1,h2,_⟩
  ·rw[hk]at h1;cases h1
  ·by_cases hex:∃(j:Nat) (p:Addr×Value),Qy[j]?=some (key,p)
   ·exact hex
   ·have:=PySem.atKey_none_of_get (xs:=Qy) (k:=key) (fun j p hj=>hex ⟨j,p,hj⟩);rw[h2]at this;cases this
 have fin:∀key x,Ue es key=some x→es.length<lim→(∀(j:Nat) (p:Addr×Value),Qy[j]?=some (key,p)→∀(h':Heap) (tk:Nat),h'.DictOfH (KK prog w) a (Qy.eraseIdx j)→Heap.SameBut a s.heap h'→Jp prog w B ι s x (σ.set n (.dict (ddel es key))) Q→Q p.2 {s with heap:=h',toks:=tk}):=fun key x hk hlim j p hj h' tk hm' hs' hp=>by
  have hnt:∀vs n,s.heap.get? a≠some (G4 vs n):=fun _ _=>DictOfH.nt dd;have hx:VR s.heap ι x p.2:=by
   rcases qq.atKey key with⟨h1,_⟩|⟨x',p',h1,h2,h3⟩
   ·rw[hk]at h1;cases h1
   ·rw[hk]at h1;cases h1;rw[PySem.atKey_of_get hn hj]at h2;cases h2;exact h3
  exact hp ι _ _ (Ext.upd (t:=tk) R hl ea rfl rfl hs' ⟨_,hm',(qq.del j key p hn hj).upd hs' hnt⟩) (VR.upd hx hs' hnt)
 refine bnP e fun kk d ha e=>?_;refine bnE e fun key hkey e=>?_;refine zA2 (Gz e) fun hlim e=>?_;dsimp only at hkey e;have hlim':=hlim;unfold lim at hlim';have hk:=Ub hkey;have hus:∃kv us',us=kv::us'∧VR s.heap ι (.tup (key.map V.int)) kv∧(us'=[]∨us'=[.none])∧(d=true→us'=[.none]):=by
  rcases popA_inv ha with⟨rfl,hd⟩|⟨rfl,hd⟩
  ·obtain⟨y,rfl,b⟩:=ra.one;exact⟨y,[],rfl,hk▸b,.inl rfl,fun h=>by rw[h]at hd;cases hd⟩
  ·obtain⟨y,z,rfl,b,c⟩:=ra.two;obtain rfl:=c.none_inv;exact⟨y,[.none],rfl,hk▸b,.inr rfl,fun _=>rfl⟩
 refine cps fun qG qK=>?_;obtain⟨kv,us',rfl,b1,hu',hd⟩:=hus;obtain⟨ka,kvs,kn,rfl,ek,qk⟩:=b1.tup_ref;refine qK ?_;cases hx:Ue es key with
 |some x=>
  rw[hx]at e;refine cps fun qG qK=>?_;have h:=h.si e;refine qK ?_;refine dict_popH hu' (by exact Jl (G6 _ _) 1 (.add (.var 0) (.num 8)) (.num 9900) [Ge 1 (.add (.add (.var 0) (.mulL 3 (.var 1))) (.num 100)) (.num 9900)] rfl hu) (R.notMod hbs hl ea rfl) b1.isKey dd (by unfold sizeLine;exact Gh (G6 _ _) 1 (.var 0) (.num 16777216) [Gp 1 (.var 0) (.var 1),Ge 1 (.var 1) (.num 100000)] rfl (Eq.symm hlen) hlim) (fun hno=>?_) (fun j p hj h' tk hm' hs'=>fin key _ hx hlim j p hj h' tk hm' hs' h);refine z21 (someOf key _ hx) fun j p hj=>?_;exact absurd hj (hno j p)
 |none=>
  rw[hx]at e;refine zA2 (Gz e) fun hd' e=>?_;have h:=h.si e;exact dict_popH hu' (by exact Jl (G6 _ _) 1 (.add (.var 0) (.num 8)) (.num 9900) [Ge 1 (.add (.add (.var 0) (.mulL 3 (.var 1))) (.num 100)) (.num 9900)] rfl hu) (R.notMod hbs hl ea rfl) b1.isKey dd (by unfold sizeLine;exact Gh (G6 _ _) 1 (.var 0) (.num 16777216) [Gp 1 (.var 0) (.var 1),Ge 1 (.var 1) (.num 100000)] rfl (Eq.symm hlen) hlim) (fun hno=>⟨hd hd',fun tk=>h.tok R tk .none⟩) (fun j p hj=>absurd hj (noneOf key hx j p))
noncomputable def Bas.lock(B:Bas)(h:Heap)(a:Addr):Bas:=⟨fun b=>if b=a then h.get? a else B.get? b⟩
noncomputable def Ob.locked:Ob→Ob
 |.list l=>.ro l
 |.dict es=>.rod es
 |o=>o
theorem ObR.locked{h:Heap}{a:Addr}{o:Ob}(r:ObR prog w h ι a o)(hm:(a==sysModules)=false):ObR prog w h ι a o.locked:=by
 cases o with
 |list xs=>exact r
 |dict es=>exact⟨hm,r⟩
 |ro xs=>exact r
 |rod es=>exact r
theorem ObR.unlocked{h:Heap}{a:Addr}{o:Ob}(r:ObR prog w h ι a o.locked):ObR prog w h ι a o:=by
 cases o with
 |list xs=>exact r
 |dict es=>exact r.2
 |ro xs=>exact r
 |rod es=>exact r
theorem Ob.locked_ro(o:Ob):o.locked.isRo=true:=by cases o<;>rfl
theorem Bas.lock_le{h:Heap}{a:Addr}(R:Rel prog w B σ ι h):∀b o,B.get? b=some o→(B.lock h a).get? b=some o:=fun b o e=>by
 show(if b=a then h.get? a else B.get? b)=some o;split
 ·rename_i hb;subst hb;exact R.base _ _ e
 ·exact e
theorem Rel.lock(R:Rel prog w B σ ι s.heap)(hB:∃o,B.get? sysModules=some o){n:Nat}{a:Addr}{o:Ob}(e:σ[n]?=some o)(ea:ι[n]?=some a)(hr:o.isRo=false):Rel prog w (B.lock s.heap a) (σ.set n o.locked) ι s.heap where
 len:=by simp[R.len]
 nodup:=R.nodup
 base:=fun b o' eb=>by
  have eb:(if b=a then s.heap.get? a else B.get? b)=some o':=eb;split at eb
  ·rename_i hb;subst hb;exact eb
  ·exact R.base _ _ eb
 obs:=by
  intro k o2 b ek eb;have hn:n<σ.length:=(Q6 e).1;by_cases hkn:k=n
  ·subst hkn;rw[List.getElem?_set_self hn]at ek;cases ek;rw[ea]at eb;cases eb;exact(R.obs k o a e ea).locked (Jt hB (R.new k o a e ea hr))
  ·rw[List.getElem?_set_ne (Ne.symm hkn)]at ek;exact R.obs k o2 b ek eb
 new:=by
  intro k o2 b ek eb hr2;have hn:n<σ.length:=(Q6 e).1;by_cases hkn:k=n
  ·subst hkn;rw[List.getElem?_set_self hn]at ek;cases ek;rw[Ob.locked_ro]at hr2;cases hr2
  ·rw[List.getElem?_set_ne (Ne.symm hkn)]at ek;have hba:b≠a:=by
    rintro rfl;exact hkn ((List.getElem?_inj (Q6 eb).1 R.nodup).mp (eb.trans ea.symm))
   show(if b=a then s.heap.get? a else B.get? b)=none;rw[if_neg hba];exact R.new k o2 b ek eb hr2
theorem Rel.unlock{h₀:Heap}{a:Addr}{o:Ob}{n:Nat}(hle:∀b o,B.get? b=some o→(B.lock h₀ a).get? b=some o)(hnew:B.get? a=none)(R:Rel prog w (B.lock h₀ a) σ ι s.heap)(e:σ[n]?=some o.locked)(ea:ι[n]?=some a):Rel prog w B (σ.set n o) ι s.heap where
 len:=by simp[R.len]
 nodup:=R.nodup
 base:=fun b o eb=>R.base b o (hle b o eb)
 obs:=by
  intro k o2 b ek eb;have hn:n<σ.length:=(Q6 e).1;by_cases hkn:k=n
  ·subst hkn;rw[List.getElem?_set_self hn]at ek;cases ek;rw[ea]at eb;cases eb;exact(R.obs k _ a e ea).unlocked
  ·rw[List.getElem?_set_ne (Ne.symm hkn)]at ek;exact R.obs k o2 b ek eb
 new:=by
  intro k o2 b ek eb hr2;have hn:n<σ.length:=(Q6 e).1;by_cases hba:b=a
  ·subst hba;exact hnew
  ·have hkn:k≠n:=by rintro rfl;rw[ea]at eb;cases eb;exact hba rfl
   rw[List.getElem?_set_ne (Ne.symm hkn)]at ek;have:=R.new k o2 b ek eb hr2;have this:(if b=a then h₀.get? a else B.get? b)=none:=this;rw[if_neg hba]at this;exact this
theorem FrR.lock{h₀ h:Heap}{ρ:Fr}{env:Env}{a:Addr}(F:FrR B ι h ρ env)(ha:a∈ι):FrR (B.lock h₀ a) ι h ρ env where
 ok:=F.ok
 rng:=F.rng
 ns:=F.ns
 cl:=F.cl
 cells:=fun n c hm=>by
  refine zA4 (F.cells n c hm) fun h1 h2 h3 h4=>?_;refine⟨h1,h2,h3,?_⟩;show(if c=a then h₀.get? a else B.get? c)=none;rw[if_neg (fun e:c=a=>h2 (e▸ha))];exact h4
 apart:=F.apart
 locOut:=F.locOut
 locNew:=by
  show(if env.locals=a then h₀.get? a else B.get? env.locals)=none;rw[if_neg (fun e:env.locals=a=>F.locOut (e▸ha))];exact F.locNew
noncomputable def owners:List String:=["enumerate","zip","dict_itemiterator","dict_reverseitemiterator","odict_iterator","itertools.zip_longest","itertools.pairwise"]
theorem letOwned_other{target:PySem.Expr}{I:Addr}{v:Value}{o:Obj}{c:String}{Q:Unit→Shared→Prop}(ho:s.heap.get? I=some o)(hc:o.cls=.type c)(hn:owners.contains c=false)(hQ:Q () s):
 wpAny (model prog w) A (letOwnedTupleGo target (.ref I) v) Q E s:=by
 have main:wpAny (model prog w) A (do
  let(.ref r,.ref a):=(Value.ref I,v)|return
  let o ←load r
  match o.cls,o.data with
  |.type n,.fields vs=>
   if["enumerate","zip","dict_itemiterator","dict_reverseitemiterator","odict_iterator","itertools.zip_longest","itertools.pairwise"].contains n&&vs[0]?==some (rawInt a)then
    rule "for.unpacks-the-owned-tuple"
    updateField r 0 .none
  |_,_=>pure ()) Q E s:=by
  split
  ·rename_i r a heq;cases heq;refine Qt (wpAny_load ho ?_);rw[hc];split
   ·rename_i n vs h1 h2;cases h1;have:(["enumerate","zip","dict_itemiterator","dict_reverseitemiterator","odict_iterator","itertools.zip_longest","itertools.pairwise"].contains c)=false:=hn;rw[this];simp only[Bool.false_and,Qq,if_false];exact Qu hQ
   ·exact Qu hQ
  ·exact Qu hQ
 unfold letOwnedTupleGo;split
 ·exact main
 ·exact main
 ·exact Qu hQ
inductive Shp where
 |name (id:Str) (p:Pos)|tup (es:List PySem.Expr) (k:Nat) (p:Pos)|other
noncomputable def shp(e:PySem.Expr):Shp:=match e with
 |.Name id p=>.name id p
 |.Tuple es k p=>.tup es k p
 |_=>.other
noncomputable def Shp.is(s:Shp)(e:PySem.Expr):Prop:=match s with
 |.name id p=>e=.Name id p
 |.tup es k p=>e=.Tuple es k p
 |.other=>True
theorem shp_is(e:PySem.Expr):(shp e).is e:=by cases e<;>first|exact rfl|exact trivial
noncomputable def Shp.isT(s:Shp):Bool:=match s with
 |.tup .. =>true
 |_=>false
noncomputable def Z6(e:PySem.Expr):Bool:=(shp e).isT
structure It(prog:Program)(w:World)(A:Around)(I:Addr)(fp wr:List Addr)(items:List V)(ι:List Addr)(many:Bool)(St:Nat→Heap→Prop):Prop where
 sub:∀b∈wr,b∈fp
 frame:∀i h h',St i h→(∀b∈fp,∀o,h.get? b=some o→h'.get? b=some o)→(∀a vs n,h.get? a=some (G4 vs n)→h'.get? a=some (G4 vs n))→St i h'
 notup:∀i h,St i h→∀b∈wr,∀vs n,h.get? b≠some (G4 vs n)
 live:∀i h,St i h→∀b∈wr,∃o,h.get? b=some o
 item:∀i x (s:Shared) (Q:Value→Shared→Prop) (E:Value→Shared→Prop) target,(many=true→Z6 target=true)→items[i]?=some x→St i s.heap→
  (∀v h' tk,VR h' ι x v→St (i+1) h'→(∀b o,b∉wr→s.heap.get? b=some o→h'.get? b=some o)→Q v {s with heap:=h',toks:=tk})→
  wpAny (model prog w) A (pyNext (.ref I)) (fun r s₁=>∃v,r=some v∧wpAny (model prog w) A (letOwnedTupleGo target (.ref I) v) (fun _ s₂=>Q v s₂) E s₁) E s
 done:∀(s:Shared) (Q:Option Value→Shared→Prop) (E:Value→Shared→Prop),St items.length s.heap→
  (∀h' tk,(∀b o,b∉wr→s.heap.get? b=some o→h'.get? b=some o)→Q none {s with heap:=h',toks:=tk})→wpAny (model prog w) A (pyNext (.ref I)) Q E s
 self:∀i (s:Shared) (Q:Value→Shared→Prop) (E:Value→Shared→Prop),St i s.heap→Q (.ref I) s→wpAny (model prog w) A (pyIter (.ref I)) Q E s
theorem It.ofWalks{I:Addr}{fp:List Addr}{n:Nat}{P:Nat→Value→Prop}{St:Nat→Heap→Prop}{items:List V}{many:Bool}(W:Walks prog w A I fp [I] n P St)(hlen:items.length=n)
 (hown:∀i h,St i h→∃o c,h.get? I=some o∧o.cls=.type c∧owners.contains c=false∧c≠ "tuple"):
 It prog w A I fp [I] items ι many (fun i h=>St i h∧∀i v x,items[i]?=some x→P i v→VR h ι x v)where
 sub:=W.sub
 frame:=fun i h h' st hk ht=>⟨W.frame i h h' st.1 hk,fun i v x hx hp=>(st.2 i v x hx hp).mono ht (Q3 _)⟩
 notup:=fun i h st b hb vs m e=>by
  obtain rfl:b=I:=by simpa using hb
  refine z24 (hown i h st.1) fun o c h1 h2 _ h3=>?_;rw[h1]at e;cases e;exact h3 (by injection h2 with h2;exact h2.symm)
 live:=fun i h st b hb=>by
  obtain rfl:b=I:=by simpa using hb
  refine z22 (hown i h st.1) fun o c h1 _=>?_;exact⟨o,h1⟩
 item:=fun i x s Q E target _ hx st hQ=>by
  refine W.item i s _ _ (by rw[←hlen];exact(Q6 hx).1) st.1 fun v h' tk hP hst' hk=>⟨v,rfl,?_⟩
  refine z24 (hown _ _ hst') fun o c h1 h2 h3 h4=>?_;refine z24 (hown _ _ st.1) fun o0 c0 g1 g2 _ g4=>?_;have ht:∀a vs n,s.heap.get? a=some (G4 vs n)→h'.get? a=some (G4 vs n):=fun a vs n e=>hk a _ (fun hb=>by
   obtain rfl:a=I:=by simpa using hb
   rw[g1]at e;cases e;exact g4 (by injection g2 with g2;exact g2.symm)) e
  refine letOwned_other (s:={s with heap:=h',toks:=tk}) h1 h2 h3 ?_;exact hQ v h' tk ((st.2 i v x hx hP).mono ht (Q3 _)) ⟨hst',fun j u y hy hp=>(st.2 j u y hy hp).mono ht (Q3 _)⟩ hk
 done:=fun s Q E st hQ=>W.done s Q E (hlen▸st.1) hQ
 self:=fun i s Q E st hQ=>W.self i s Q E st.1 hQ
noncomputable def Jm(h:Heap)(d:Addr)(es:Array DictEntry)(ep:Nat):Prop:=∃o,h.get? d=some o∧o.cls=.type "dict" ∧o.data=.dict es ep
theorem Jm.at{h h':Heap}{d:Addr}{es:Array DictEntry}{ep:Nat}(x:Jm h d es ep)(e:∀o,h.get? d=some o→h'.get? d=some o):Jm h' d es ep:=let⟨o,ho,r⟩:=x;⟨o,e _ ho,r⟩
theorem Jm.typeIs{d:Addr}{es:Array DictEntry}{ep:Nat}(x:Jm s.heap d es ep):s.TypeIs (.ref d) "dict" :=let⟨o,ho,r⟩:=x;⟨o,ho,r.1⟩
theorem iter_dict{d:Addr}{es:Array DictEntry}{ep:Nat}{Q:Value→Shared→Prop}(hd:(d==sysModules)=false)(hm:Jm s.heap d es ep)
 (hQ:Q (.ref s.heap.objs.size) {s with heap:=s.heap.push {cls:=.type "dict_keyiterator",data:=.fields #[.ref d,.int 0 0,.int es.size 0,.int ep 0]}}):
 wpAny (model prog w) A (pyIter (.ref d)) Q E s:=by
 have hT:=hm.typeIs;refine z13 (id hm) fun o ho hc hdat=>?_;refine wpAny_pyIter_slot hT F.slot_dict_iter (wpAny_call_entry F.slot_dict_iter hT F.entry_dict_iter ?_ (F.args_dict_iter_1 _));unfold Builtin.«dict.__iter__»;refine Qt ?_;unfold Builtin.Dict.dictSlotNone;refine Qt (wpAny_notOrdered_dict hT ?_);show wpAny _ _ (pure (Value.ref d)) _ _ s;refine Qu ?_;show wpAny _ _ (Builtin.Dict.showsAll d >>= _) _ _ s;unfold Builtin.Dict.showsAll;rw[if_neg (by rw[hd];exact Bool.false_ne_true)];refine Qt (Qu ?_);refine Qt (wpAny_dictEntries ho hdat (Qt (wpAny_dictEpoch ho hdat ?_)));refine Qt (wpAny_newObj_type (Qu ⟨_,rfl,"dict_keyiterator",_,⟨_,Qv _ rfl,rfl⟩,F.slot_dict_keyiterator_next.lookup,?_⟩));simpa[rawInt]using hQ
theorem next_key{it d:Addr}{i ep:Nat}{es:Array DictEntry}{e:DictEntry}{Q:Option Value→Shared→Prop}(hit:s.heap.IsKeyIter it d i es.size ep)(hm:Jm s.heap d es ep)(hx:es[i]?=some e)
 (hQ:∀h',h'.IsKeyIter it d (i+1) es.size ep→Heap.SameBut it s.heap h'→Q (some e.key) {s with heap:=h'}):
 wpAny (model prog w) A (pyNext (.ref it)) Q E s:=by
 refine z13 (id hit) fun o ho hc hd=>?_;refine z13 (id hm) fun od hod hcd hdd=>?_;have hT:=hit.typeIs;have hown:Builtin.Dict_items.ownsTuple "dict_keyiterator" =false:=by decide
 unfold pyNext;refine Qt (wpAny_attempt (wpAny_callSpecial?_slot (name:=Str.ofString "__next__") hT F.slot_dict_keyiterator_next
  (wpAny_call_entry F.slot_dict_keyiterator_next hT F.entry_dict_keyiterator_next ?_ (F.args_dict_keyiterator_next_1 _))))
 refine Qt (Qu (Qt (Qt (Qt (wpAny_typeNameOfWhole_keyiter hT (Qu (Qt (wpAny_fieldsOf ho hd ?_))))))));simp only[hown,Qq,if_false];show wpAny _ _ (if(Value.ref d==Value.none)=true then _ else _) _ _ s;rw[if_neg (show¬((Value.ref d==Value.none)=true)from Bool.false_ne_true)];refine Qt (Qu (Qt (wpAny_dictEntries hod hdd ?_)));rw[if_neg (by simp)];refine Qt (Qu (Qt (wpAny_dictEpoch hod hdd ?_)));rw[if_neg (by simp)];refine Qu ?_;simp only[show¬((i:Int)<0)from by lia,if_false,Int.toNat_natCast,hx];refine Qt (Qt (wpAny_typeNameOfWhole_keyiter hT (Qu (Qt (wpAny_isOneOf_keyiter hT ?_)))));show wpAny _ _ (setField (.ref it) 1 (rawInt ((i:Int)+1)) >>= _) _ _ s;have hit':(s.heap.update it (Obj.mapFields (·.setIfInBounds 1 (rawInt ((i:Int)+1))))).IsKeyIter it d (i+1) es.size ep:=
  ⟨_,Heap.get?_update_self _ ho (Obj.isFreed_of_fields (Obj.data_mapFields hd _)),(Obj.cls_mapFields ..).trans hc,by rw[Obj.data_mapFields hd];simp[rawInt]⟩
 refine Qt (wpAny_setField ho hd (by simp) ?_);refine Qt (wpAny_holding ?_);refine Qt (wpAny_isOneOf_keyiter (s:={s with heap:=s.heap.update it (Obj.mapFields (·.setIfInBounds 1 (rawInt ((i:Int)+1))))}) hit'.typeIs ?_);show wpAny _ _ (pure e.key) _ _ _;exact Qu (Qu ⟨_,rfl,Qu (hQ _ hit' (Heap.SameBut.update ..))⟩)
theorem next_key_end{it d:Addr}{i ep:Nat}{es:Array DictEntry}{Q:Option Value→Shared→Prop}(hh:A.handled=none)(hit:s.heap.IsKeyIter it d i es.size ep)(hm:Jm s.heap d es ep)(hx:es[i]?=none)
 (hQ:∀h',Heap.ExtBut it s.heap h'→Q none {s with heap:=h'}):wpAny (model prog w) A (pyNext (.ref it)) Q E s:=by
 refine z13 (id hit) fun o ho hc hd=>?_;refine z13 (id hm) fun od hod hcd hdd=>?_;have hT:=hit.typeIs;have hown:Builtin.Dict_items.ownsTuple "dict_keyiterator" =false:=by decide
 unfold pyNext;refine Qt (wpAny_attempt (wpAny_callSpecial?_slot (name:=Str.ofString "__next__") hT F.slot_dict_keyiterator_next
  (wpAny_call_entry F.slot_dict_keyiterator_next hT F.entry_dict_keyiterator_next ?_ (F.args_dict_keyiterator_next_1 _))))
 refine Qt (Qu (Qt (Qt (Qt (wpAny_typeNameOfWhole_keyiter hT (Qu (Qt (wpAny_fieldsOf ho hd ?_))))))));simp only[hown,Qq,if_false];show wpAny _ _ (if(Value.ref d==Value.none)=true then _ else _) _ _ s;rw[if_neg (show¬((Value.ref d==Value.none)=true)from Bool.false_ne_true)];refine Qt (Qu (Qt (wpAny_dictEntries hod hdd ?_)));rw[if_neg (by simp)];refine Qt (Qu (Qt (wpAny_dictEpoch hod hdd ?_)));rw[if_neg (by simp)];refine Qu ?_;simp only[show¬((i:Int)<0)from by lia,if_false,Int.toNat_natCast,hx];refine Qt (Qt (wpAny_typeNameOfWhole_keyiter hT (Qu ?_)));show wpAny _ _ (setField (.ref it) 0 .none >>= _) _ _ s;refine Qt (wpAny_setField ho hd (by simp) ?_);show wpAny _ _ (newExc (.type "StopIteration") [] >>= _) _ _ _;refine Qt ?_;simp only[newExc,newTuple];refine Qt (wpAny_newObj_type ?_ (by size_fits));refine Qt (m:=firstArgMember _ _) (wpAny_of_eq (a:=Value.none) (by first|rfl|(simp only[firstArgMember];rfl)) ?_);refine wpAny_newObj_type ?_ (by size_fits);simp only[raiseNew];refine Qt (wpAny_handled ?_);rw[show A.in1.handled=none from hh];refine Qt (Qu (wpAny_throw ?_));refine Qt (wpAny_isInstance (T:= "StopIteration") (b:=true) ⟨_,Qv _ rfl,rfl⟩ isSubtype_stop ?_);exact Qu (hQ _ (((Heap.SameBut.update ..).extBut.push _).push _))
theorem Walks.rawKeys(hh:A.handled=none)(I d:Addr)(hne:d≠I)(es:Array DictEntry)(ep:Nat):
 Walks prog w A I [I,d] [I] es.size (fun i v=>∃e,es[i]?=some e∧v=e.key) (fun i h=>h.IsKeyIter I d i es.size ep∧Jm h d es ep)where
 sub:=fun b hb=>by simp at hb;simp[hb]
 frame:=fun _ _ _ st hk=>⟨st.1.at fun o e=>hk I (by simp) o e,st.2.at fun o e=>hk d (by simp) o e⟩
 item:=fun i s Q E hi st hQ=>by
  refine next_key st.1 st.2 (Array.getElem?_eq_getElem hi) fun h' hit' hs'=>?_;exact hQ _ h' s.toks ⟨_,Array.getElem?_eq_getElem hi,rfl⟩ ⟨hit',st.2.at fun o e=>(hs'.2 d hne).trans e⟩ fun b o hb e=>hs'.extBut b o (fun h=>hb (by simp[h])) e
 done:=fun s Q E st hQ=>next_key_end hh st.1 st.2 (Array.getElem?_eq_none (Qs _)) fun h' he'=>hQ h' s.toks fun b o hb e=>he' b o (fun h=>hb (by simp[h])) e
 self:=fun _ _ _ _ st hQ=>wpAny_pyIter_keyiter st.1 hQ
theorem call_items{d:Addr}{es:Array DictEntry}{ep:Nat}{Q:Value→Shared→Prop}(hd:(d==sysModules)=false)(hm:Jm s.heap d es ep)
 (h:Q (.ref s.heap.objs.size) {s with heap:=s.heap.push {cls:=.type "dict_items",data:=.fields #[.ref d]}}):
 wpAny (model prog w) A (call (.builtin "dict.items") [.ref d]) Q E s:=by
 have hT:=hm.typeIs;refine wpAny_call_entry F.slot_dict_items hT F.entry_dict_items ?_ (F.args_dict_items_1 _);unfold Builtin.«dict.items»;refine Qt ?_;unfold Builtin.Dict.noArgs;refine Qt (wpAny_notOrdered_dict hT ?_);show wpAny _ _ (pure d) _ _ s;refine Qu ?_;show wpAny _ _ (Builtin.Dict.showsAll d >>= _) _ _ s;unfold Builtin.Dict.showsAll;rw[if_neg (by rw[hd];exact Bool.false_ne_true)];refine Qt (Qu ?_);exact Qt (wpAny_newObj_type (Qu ⟨_,rfl,h⟩))
theorem iter_items{v d:Addr}{es:Array DictEntry}{ep:Nat}{Q:Value→Shared→Prop}(hv:s.heap.IsItemsView v d)(hm:Jm s.heap d es ep)
 (hQ:Q (.ref s.heap.objs.size) {s with heap:=s.heap.push {cls:=.type "dict_itemiterator",data:=.fields #[.none,.bool false,.ref d,.int 0 0,.int es.size 0,.int ep 0,.none,.none]}}):
 wpAny (model prog w) A (pyIter (.ref v)) Q E s:=by
 refine z13 (id hv) fun ov hov hcv hdv=>?_;refine z13 (id hm) fun o ho hc hdat=>?_;refine wpAny_pyIter_slot hv.typeIs F.slot_dict_items_iter (wpAny_call_entry F.slot_dict_items_iter hv.typeIs F.entry_dict_items_iter ?_ (F.args_dict_items_iter_1 _));unfold Builtin.«dict_items.__iter__»;refine Qt (Qu (Qt ?_));unfold Builtin.Dict_items.dictOf;refine Qt (wpAny_field hov hdv (x:=.ref d) rfl (Qu (Qt ?_)));unfold Builtin.Dict_items.newIterator;refine Qt (wpAny_dictEntries ho hdat (Qt (wpAny_dictEpoch ho hdat ?_)));have hown:Builtin.Dict_items.ownsTuple "dict_itemiterator" =true:=by decide
 simp only[hown,if_true];refine wpAny_newObj_type (Qu ⟨_,rfl,"dict_itemiterator",_,⟨_,Qv _ rfl,rfl⟩,F.slot_dict_itemiterator_next.lookup,?_⟩)
  (by simp only[sizeOk,Builtin.Dict_items.ownedTupleFields,List.size_toArray,Q8,Qa,Qk,sizeLine_eq];exact Gh (.leaf 0) 1 (.add (.add (.add (.add (.num 0) (.num 1)) (.num 1)) (.add (.add (.add (.add (.num 0) (.num 1)) (.num 1)) (.num 1)) (.num 1))) (.add (.add (.num 0) (.num 1)) (.num 1))) (.add (.num 16777216) (.num 2)) [] rfl)
 simpa[rawInt,Builtin.Dict_items.ownedTupleFields]using hQ
theorem next_item{it d:Addr}{i ep:Nat}{es:Array DictEntry}{e:DictEntry}{ok ov:Value}{Q:Option Value→Shared→Prop}(hit:IsItemIter s.heap it d i es.size ep ok ov)(hm:Jm s.heap d es ep)(hx:es[i]?=some e)
 (hQ:∀h',IsItemIterOut h' it d (i+1) es.size ep e.key e.val s.heap.objs.size→h'.get? s.heap.objs.size=some (G4 #[e.key,e.val] 0)→
  (∀b o,b≠it→s.heap.get? b=some o→h'.get? b=some o)→Q (some (.ref s.heap.objs.size)) {s with heap:=h'}):
 wpAny (model prog w) A (pyNext (.ref it)) Q E s:=by
 obtain⟨hp,g,dr,tk,os⟩:=s;refine z13 (id hm) fun od hod hcd hdd=>?_;have hT:Shared.TypeIs ⟨hp,g,dr,tk,os⟩ (.ref it) "dict_itemiterator" :=⟨_,hit,rfl⟩
 have hown:Builtin.Dict_items.ownsTuple "dict_itemiterator" =true:=by decide
 unfold pyNext;refine Qt (wpAny_attempt (wpAny_callSpecial?_slot (name:=Str.ofString "__next__") hT F.slot_dict_itemiterator_next
  (wpAny_call_entry F.slot_dict_itemiterator_next hT F.entry_dict_itemiterator_next ?_ (F.args_dict_itemiterator_next_1 _))))
 refine Qt (Qu (Qt (Qt (Qt (wpAny_typeNameOfWhole_itemiter hT (Qu (Qt (wpAny_fieldsOf hit rfl ?_))))))));simp only[hown,if_true];show wpAny _ _ (if(Value.ref d==Value.none)=true then _ else _) _ _ _;rw[if_neg (show¬((Value.ref d==Value.none)=true)from Bool.false_ne_true)];refine Qt (Qu (Qt (wpAny_dictEntries hod hdd ?_)));rw[if_neg (by simp)];refine Qt (Qu (Qt (wpAny_dictEpoch hod hdd ?_)));rw[if_neg (by simp)];refine Qu ?_;simp only[show¬((i:Int)<0)from by lia,if_false,Int.toNat_natCast,hx];refine Qt (Qt (wpAny_typeNameOfWhole_itemiter hT (Qu (Qt (wpAny_isOneOf_itemiter hT ?_)))));show wpAny _ _ (setField (.ref it) 3 (rawInt ((i:Int)+1)) >>= _) _ _ ⟨hp,g,dr,tk,os⟩;refine Qt (wpAny_setField_rec hit (by simp) fun h₁ he₁ hs₁=>?_)
 replace hs₁:Heap.SameBut it hp h₁:=hs₁
 replace he₁:IsItemIter h₁ it d (i+1) es.size ep ok ov:=by
  have e:((i+1:Nat):Int)=(i:Int)+1:=by lia
  unfold IsItemIter;rw[e];simpa[rawInt]using he₁
 have hT₁:Shared.TypeIs ⟨h₁,g,dr,tk,os⟩ (.ref it) "dict_itemiterator" :=⟨_,he₁,rfl⟩
 refine Qt (wpAny_holding ?_);refine Qt (wpAny_isOneOf_itemiter hT₁ ?_);refine Qt (wpAny_isOneOf_itemiter hT₁ ?_);show wpAny _ _ (Builtin.Dict_items.pairFromOwner (.ref it) 6 e.key e.val) _ _ ⟨h₁,g,dr,tk,os⟩;unfold Builtin.Dict_items.pairFromOwner;refine Qt (wpAny_newTuple ?_);have he₂:IsItemIter (h₁.push (G4 #[e.key,e.val] 0)) it d (i+1) es.size ep ok ov:=Heap.get?_push_of_some _ he₁;have hz₁:h₁.objs.size=hp.objs.size:=hs₁.1;have hil:it<hp.objs.size:=Heap.lt_size hit;have ht₂:(h₁.push (G4 #[e.key,e.val] 0)).get? hp.objs.size=some (G4 #[e.key,e.val] 0):=by rw[←hz₁];exact Qv _ rfl
 have hk₂:∀b o,b≠it→hp.get? b=some o→(h₁.push (G4 #[e.key,e.val] 0)).get? b=some o:=fun b o hb e=>Heap.get?_push_of_some _ (hs₁.extBut b o hb e);show wpAny _ _ (Builtin.SmallTypes.ownedTupleIsFree (.ref it) >>= _) _ _ ⟨h₁.push (G4 #[e.key,e.val] 0),g,dr,tk,os⟩;rw[hz₁];generalize h₁.push (G4 #[e.key,e.val] 0)=h₂ at he₂ ht₂ hk₂⊢;clear he₁ hs₁ hT₁ hz₁ h₁;refine Qt ?_;unfold Builtin.SmallTypes.ownedTupleIsFree;refine Qt (wpAny_field he₂ rfl (x:=.none) rfl (Qu ?_));simp only[if_true];refine Qt (wpAny_field he₂ rfl (x:=ok) rfl (Qt (wpAny_field he₂ rfl (x:=ov) rfl ?_)));refine Qt (wpAny_setField_rec he₂ (by simp) fun h₃ he₃ hs₃=>?_)
 replace hs₃:Heap.SameBut it h₂ h₃:=hs₃
 replace he₃:IsItemIter h₃ it d (i+1) es.size ep e.key ov:=he₃
 refine Qt (wpAny_setField_rec he₃ (by simp) fun h₄ he₄ hs₄=>?_)
 replace hs₄:Heap.SameBut it h₃ h₄:=hs₄
 replace he₄:IsItemIter h₄ it d (i+1) es.size ep e.key e.val:=he₄
 refine Qt (wpAny_setField_rec he₄ (by simp) fun h₅ he₅ hs₅=>?_)
 replace hs₅:Heap.SameBut it h₄ h₅:=hs₅
 replace he₅:IsItemIterOut h₅ it d (i+1) es.size ep e.key e.val hp.objs.size:=he₅
 refine Qt (wpAny_setField_rec he₅ (by simp) fun h₆ he₆ hs₆=>?_)
 replace hs₆:Heap.SameBut it h₅ h₆:=hs₆
 replace he₆:IsItemIterOut h₆ it d (i+1) es.size ep e.key e.val hp.objs.size:=he₆
 have hk:∀b o,b≠it→h₂.get? b=some o→h₆.get? b=some o:=fun b o hb e=>hs₆.extBut b o hb (hs₅.extBut b o hb (hs₄.extBut b o hb (hs₃.extBut b o hb e)));exact Qt (wpAny_letGo (Qu (Qu ⟨_,rfl,Qu (hQ h₆ he₆ (hk _ _ (Nat.ne_of_gt hil) ht₂) fun b o hb e=>hk b o hb (hk₂ b o hb e))⟩)))
theorem next_item_end{it d:Addr}{i ep:Nat}{es:Array DictEntry}{ok ov:Value}{Q:Option Value→Shared→Prop}(hh:A.handled=none)(hit:IsItemIter s.heap it d i es.size ep ok ov)(hm:Jm s.heap d es ep)(hx:es[i]?=none)
 (hQ:∀h',Heap.ExtBut it s.heap h'→Q none {s with heap:=h'}):wpAny (model prog w) A (pyNext (.ref it)) Q E s:=by
 refine z13 (id hm) fun od hod hcd hdd=>?_;have hT:s.TypeIs (.ref it) "dict_itemiterator" :=⟨_,hit,rfl⟩
 have hown:Builtin.Dict_items.ownsTuple "dict_itemiterator" =true:=by decide
 unfold pyNext;refine Qt (wpAny_attempt (wpAny_callSpecial?_slot (name:=Str.ofString "__next__") hT F.slot_dict_itemiterator_next
  (wpAny_call_entry F.slot_dict_itemiterator_next hT F.entry_dict_itemiterator_next ?_ (F.args_dict_itemiterator_next_1 _))))
 refine Qt (Qu (Qt (Qt (Qt (wpAny_typeNameOfWhole_itemiter hT (Qu (Qt (wpAny_fieldsOf hit rfl ?_))))))));simp only[hown,if_true];show wpAny _ _ (if(Value.ref d==Value.none)=true then _ else _) _ _ s;rw[if_neg (show¬((Value.ref d==Value.none)=true)from Bool.false_ne_true)];refine Qt (Qu (Qt (wpAny_dictEntries hod hdd ?_)));rw[if_neg (by simp)];refine Qt (Qu (Qt (wpAny_dictEpoch hod hdd ?_)));rw[if_neg (by simp)];refine Qu ?_;simp only[show¬((i:Int)<0)from by lia,if_false,Int.toNat_natCast,hx];refine Qt (Qt (wpAny_typeNameOfWhole_itemiter hT (Qu ?_)));show wpAny _ _ (setField (.ref it) 2 .none >>= _) _ _ s;refine Qt (wpAny_setField hit rfl (by simp) ?_);show wpAny _ _ (newExc (.type "StopIteration") [] >>= _) _ _ _;refine Qt ?_;simp only[newExc,newTuple];refine Qt (wpAny_newObj_type ?_ (by size_fits));refine Qt (m:=firstArgMember _ _) (wpAny_of_eq (a:=Value.none) (by first|rfl|(simp only[firstArgMember];rfl)) ?_);refine wpAny_newObj_type ?_ (by size_fits);simp only[raiseNew];refine Qt (wpAny_handled ?_);rw[show A.in1.handled=none from hh];refine Qt (Qu (wpAny_throw ?_));refine Qt (wpAny_isInstance (T:= "StopIteration") (b:=true) ⟨_,Qv _ rfl,rfl⟩ isSubtype_stop ?_);exact Qu (hQ _ (((Heap.SameBut.update ..).extBut.push _).push _))
theorem drawTuple(hh:A.handled=none)(it l:Addr)(hne:l≠it)(items:Array Value):
 Draws prog w A it [it,l] items.size (fun i v=>items[i]?=some v) (fun i h=>h.IsTupleIter it l i∧h.IsTuple l items)where
 live:=fun _ _ st=>let⟨o,ho,_⟩:=st.1;⟨o,ho⟩
 frame:=fun _ _ _ st hk=>⟨let⟨o,ho,r⟩:=st.1;⟨o,hk it (by simp) o ho,r⟩,let⟨o,ho,r⟩:=st.2;⟨o,hk l (by simp) o ho,r⟩⟩
 item:=fun i s Q E hi st hQ=>by
  have hT:=st.1.typeIs;refine z13 st.1 fun o ho hc hd=>?_;obtain⟨ol,hol,hcl,nl,hdl⟩:=st.2;unfold Builtin.SmallTypes.nextOf;refine Qt (wpAny_callSpecial?_slot (name:=Str.ofString "__next__") hT F.slot_tuple_iterator_next
   (wpAny_call_entry F.slot_tuple_iterator_next hT F.entry_tuple_iterator_next ?_ (F.args_tuple_iterator_next_1 _)))
  show wpAny _ _ (field (.ref it) 0 >>= _) _ _ s;refine Qt (wpAny_field ho hd (x:=.ref l) rfl ?_);show wpAny _ _ (if(Value.ref l==Value.none)=true then _ else _) _ _ s;rw[if_neg (show¬((Value.ref l==Value.none)=true)from Bool.false_ne_true)];show wpAny _ _ (field (.ref it) 1 >>= _) _ _ s;refine Qt (wpAny_field ho hd (x:=.int i 0) rfl ?_);show wpAny _ _ (seqItems? (.ref l) >>= _) _ _ s;refine Qt (wpAny_seqItems hol hdl ?_);simp only[Int.toNat_natCast,Array.getElem?_eq_getElem hi];refine Qt (wpAny_setField ho hd (by simp) (Qu ⟨items[i],rfl,Qu (hQ _ _ s.toks (Array.getElem?_eq_getElem hi) ⟨?_,?_⟩ (Heap.SameBut.update ..))⟩))
  ·exact⟨_,Heap.get?_update_self _ ho (Obj.isFreed_of_fields (Obj.data_mapFields hd _)),(Obj.cls_mapFields ..).trans hc,by
    rw[Obj.data_mapFields hd];simp[rawInt]⟩
  ·exact⟨ol,((Heap.SameBut.update ..).2 l hne).trans hol,hcl,nl,hdl⟩
 done:=fun s Q E st hE=>by
  have hT:=st.1.typeIs;refine cps fun qG qK=>?_;refine z13 st.1 fun o ho hc hd=>?_;obtain⟨ol,hol,hcl,nl,hdl⟩:=st.2;refine qK ?_;unfold Builtin.SmallTypes.nextOf;refine Qt (wpAny_callSpecial?_slot (name:=Str.ofString "__next__") hT F.slot_tuple_iterator_next
   (wpAny_call_entry F.slot_tuple_iterator_next hT F.entry_tuple_iterator_next ?_ (F.args_tuple_iterator_next_1 _)))
  show wpAny _ _ (field (.ref it) 0 >>= _) _ _ s;refine Qt (wpAny_field ho hd (x:=.ref l) rfl ?_);show wpAny _ _ (if(Value.ref l==Value.none)=true then _ else _) _ _ s;rw[if_neg (show¬((Value.ref l==Value.none)=true)from Bool.false_ne_true)];show wpAny _ _ (field (.ref it) 1 >>= _) _ _ s;refine Qt (wpAny_field ho hd (x:=.int items.size 0) rfl ?_);show wpAny _ _ (seqItems? (.ref l) >>= _) _ _ s;refine Qt (wpAny_seqItems hol hdl ?_);simp only[Int.toNat_natCast,Array.getElem?_eq_none (Qs items.size)];refine Qt (wpAny_rule (Qt (wpAny_setField ho hd (by simp) ?_)));show wpAny _ _ (newExc (.type "StopIteration") [] >>= _) _ _ _;refine Qt ?_;simp only[newExc,newTuple];refine Qt (wpAny_newObj_type ?_ (by size_fits));refine Qt (m:=firstArgMember _ _) (wpAny_of_eq (a:=Value.none) (by first|rfl|(simp only[firstArgMember];rfl)) ?_);refine wpAny_newObj_type ?_ (by size_fits);simp only[raiseNew];refine Qt (wpAny_handled ?_)
  first|rw[show A.in1.handled=none from hh]|rw[hh]
  refine Qt (Qu (wpAny_throw ?_));exact hE _ _ (((Heap.SameBut.update ..).extBut.push _).push _) ⟨_,Qv _ rfl,rfl⟩
theorem meets_enum_tuple(l:Addr)(items:Array Value)(n:Nat):
 Meets (Builtin.«enumerate.__new__» ⟨[.type "enumerate",.ref l],[]⟩) (fun _ R s=>s.heap.get? l=some (G4 items n)∧
  R (.ok (.ret (.ref (s.heap.push {cls:=.type "tuple_iterator",data:=.fields #[.ref l,.int 0 0]}).objs.size)))
   {s with heap:=(s.heap.push {cls:=.type "tuple_iterator",data:=.fields #[.ref l,.int 0 0]}).push {cls:=.type "enumerate",data:=.fields #[.none,.bool false,.ref s.heap.objs.size,rawInt 0,.none,.none]}}):=
 .of_wp fun prog w A R s h=>by
  obtain⟨hp,g,d,tk,os⟩:=s;obtain⟨hl,h⟩:=h;unfold G4 at hl;have hsub:=sub_enumerate;have hL:Heap.IsTuple (Shared.heap ⟨hp,g,d,tk,os⟩) l items:=⟨_,hl,rfl,n,rfl⟩
  wp_walk using AutoSeq1.wpAny_loadPart' hl
  refine wpAny_stack_any fun st=>Qu ?_;split
  ·rename_i c _ _ _ _ _;cases(c==Value.type "enumerate")
   ·wp_walk using AutoSeq1.wpAny_loadPart' hl,wpAny_pyIter_tuple hL
    exact⟨_,rfl,h⟩
   ·wp_walk using AutoSeq1.wpAny_loadPart' hl,wpAny_pyIter_tuple hL
    exact⟨_,rfl,h⟩
  ·wp_walk using AutoSeq1.wpAny_loadPart' hl,wpAny_pyIter_tuple hL
   exact⟨_,rfl,h⟩
theorem call_enum_tuple{l:Addr}{items:Array Value}{n:Nat}{Q:Value→Shared→Prop}(hl:s.heap.get? l=some (G4 items n))
 (h:∀h',IsEnum h' (s.heap.objs.size+1) s.heap.objs.size 0 .none→h'.IsTupleIter s.heap.objs.size l 0→(∀b o,s.heap.get? b=some o→h'.get? b=some o)→Q (.ref (s.heap.objs.size+1)) {s with heap:=h'}):
 wpAny (model prog w) A (call (.type "enumerate") [.ref l]) Q E s:=by
 refine callType_new F.called_enumerate (by decide) (F.typeCall_enumerate_1 _) (F.newCall_enumerate_1 _) (fun obj=>F.args_object_init_2 obj _) F.entry_enumerate_new (meets_enum_tuple l items n) ⟨hl,?_⟩;have hz:(s.heap.push {cls:=.type "tuple_iterator",data:=.fields #[.ref l,.int 0 0]}).objs.size=s.heap.objs.size+1:=Heap.size_push ..;show _∧_;rw[hz];have he:IsEnum ((s.heap.push {cls:=.type "tuple_iterator",data:=.fields #[.ref l,.int 0 0]}).push
  {cls:=.type "enumerate",data:=.fields #[.none,.bool false,.ref s.heap.objs.size,rawInt 0,.none,.none]}) (s.heap.objs.size+1) s.heap.objs.size 0 .none:=by
  have:=Qv (s.heap.push {cls:=.type "tuple_iterator",data:=.fields #[.ref l,.int 0 0]})
   (o:={cls:=.type "enumerate",data:=.fields #[.none,.bool false,.ref s.heap.objs.size,rawInt 0,.none,.none]}) rfl
  rw[hz]at this;exact this
 exact⟨⟨_,he,rfl⟩,h _ he ⟨_,Heap.get?_push_of_some _ (Qv _ rfl),rfl,rfl⟩ fun b o x=>Heap.get?_push_of_some _ (Heap.get?_push_of_some _ x)⟩
theorem enumV_get:∀(l:List V) (j i:Nat),(Uj j l)[i]?=(l[i]?).map fun x=>V.tup [.int ((j+i:Nat):Int),x]
 |[],j,i=>by simp[Uj]
 |a::l,j,0=>by simp[Uj]
 |a::l,j,i+1=>by
  simp only[Uj,List.getElem?_cons_succ];rw[enumV_get l (j+1) i,show j+1+i=j+(i+1) by exact Nat.le_antisymm (Gh (G6 _ _) 1 (.add (.add (.var 0) (.num 1)) (.var 1)) (.add (.var 0) (.add (.var 1) (.num 1))) [] rfl) (Gh (G6 _ _) 1 (.add (.var 0) (.add (.var 1) (.num 1))) (.add (.add (.var 0) (.num 1)) (.var 1)) [] rfl)]
theorem enumV_len:∀(l:List V) (j:Nat),(Uj j l).length=l.length
 |[],_=>rfl
 |a::l,j=>by simp[Uj,enumV_len l]
theorem isTup_eq{target:PySem.Expr}(h:Z6 target=true):∃elts k pos,target=.Tuple elts k pos:=by
 have i:=shp_is target;have h:(shp target).isT=true:=h;revert h i;generalize shp target=s;intro i h;cases s with
 |tup es k p=>exact⟨es,k,p,i⟩
 |_=>exact nomatch h
theorem It.enum{it e:Addr}{fp:List Addr}{n:Nat}{P:Nat→Value→Prop}{St:Nat→Heap→Prop}{l:List V}(D:Draws prog w A.in1 it fp n P St)(hei:e≠it)(hef:e∉fp)(hif:it∈fp)(hlen:l.length=n)
 (hnt:∀i h,St i h→∃o c,h.get? it=some o∧o.cls=.type c∧c≠ "tuple"):
 It prog w A e (e::fp) [e,it] (Uj 0 l) ι true (fun i h=>((∃old,IsEnum h e it i old)∧St i h)∧∀i v x,l[i]?=some x→P i v→VR h ι x v)where
 sub:=fun b hb=>by
  rcases Q5 hb with rfl|hb
  ·exact List.mem_cons_self ..
  ·rw[Q2 hb];exact List.mem_cons_of_mem _ hif
 frame:=fun i h h' st hk ht=>by
  refine cps fun qG qK=>?_;obtain⟨⟨⟨old,he⟩,hs⟩,hv⟩:=st;refine qK ?_;exact⟨⟨⟨old,hk e (by simp) _ he⟩,D.frame _ _ _ hs fun b hb o x=>hk b (List.mem_cons_of_mem _ hb) o x⟩,fun i v x hx hp=>(hv i v x hx hp).mono ht (Q3 _)⟩
 notup:=fun i h st b hb vs m ex=>by
  obtain⟨⟨⟨old,he⟩,hs⟩,hv⟩:=st;rcases Q5 hb with rfl|hb
  ·rw[he]at ex;exact absurd ex (by unfold G4;simp)
  ·rw[Q2 hb]at ex;refine z23 (hnt _ _ hs) fun o c h1 h2 h3=>?_;rw[h1]at ex;cases ex;exact h3 (by injection h2 with h2;exact h2.symm)
 live:=fun i h st b hb=>by
  obtain⟨⟨⟨old,he⟩,hs⟩,hv⟩:=st;rcases Q5 hb with rfl|hb
  ·exact⟨_,he⟩
  ·rw[Q2 hb];exact D.live _ _ hs
 item:=fun i x s Q E target hm hx st hQ=>by
  obtain⟨elts,kk,pos,rfl⟩:=isTup_eq (hm rfl);obtain⟨⟨⟨old,he⟩,hs⟩,hv⟩:=st;rw[enumV_get,Option.map_eq_some_iff]at hx;obtain⟨y,hy,rfl⟩:=hx;have hi:i<n:=by rw[←hlen];exact(Q6 hy).1
  have helt:e<s.heap.objs.size:=Heap.lt_size he;have hilt:it<s.heap.objs.size:=by obtain⟨_,y⟩:=D.live _ _ hs;exact Heap.lt_size y
  refine wpAny_pyNext_enum_itemD D he hs hi hei hef fun u h' tk hP ho hs' hT hsz hk=>⟨_,rfl,?_⟩
  refine wpAny_letOwnedTupleGo_enum (s:={s with heap:=h',toks:=tk+1}) ho fun h2 he2 hs2=>?_;have hk2:∀b o,b∉[e,it]→s.heap.get? b=some o→h2.get? b=some o:=fun b o hb y=>
   (hs2.2 b fun e'=>hb (by simp[e'])).trans (hk b o (fun e'=>hb (by simp[e'])) (fun e'=>hb (by simp[e'])) y)
  have ht2:∀a vs n,s.heap.get? a=some (G4 vs n)→h2.get? a=some (G4 vs n):=fun a vs m ea=>hk2 a _ (fun hb=>by
   rcases Q5 hb with rfl|hb
   ·rw[he]at ea;exact absurd ea (by unfold G4;simp)
   ·rw[Q2 hb]at ea;refine z23 (hnt _ _ hs) fun o c h1 h2 h3=>?_;rw[h1]at ea;cases ea;exact h3 (by injection h2 with h2;exact h2.symm)) ea
  have hT2:h2.get? s.heap.objs.size=some (G4 #[.int i tk,u] 0):=(hs2.2 _ (Nat.ne_of_gt helt)).trans hT;refine hQ _ h2 _ (.tup hT2 (.cons ?_ (.cons ((hv i u y hy hP).mono ht2 (Q3 _)) .nil))) ⟨⟨⟨u,by simpa using he2⟩,D.frame _ _ _ hs' fun b hb o y=>(hs2.2 b fun q=>hef (q▸hb)).trans y⟩,fun j v z hz hp=>(hv j v z hz hp).mono ht2 (Q3 _)⟩ hk2;rw[Nat.zero_add];exact .int _ _
 done:=fun s Q E st hQ=>by
  rw[enumV_len,hlen]at st;obtain⟨⟨⟨old,he⟩,hs⟩,hv⟩:=st;exact wpAny_pyNext_enum_endD D he hs fun h' hx=>hQ h' s.toks fun b o hb y=>hx b o (fun e'=>hb (by simp[e'])) y
 self:=fun i s Q E st hQ=>by
  obtain⟨⟨⟨old,he⟩,_⟩,_⟩:=st;exact wpAny_pyIter_enum he hQ
theorem entry_itemiter_iter:entryFor table "dict_itemiterator.__iter__" =some Builtin.«dict_keyiterator.__iter__»:=entryFor_alias (id':= "dict_keyiterator.__iter__") (by kernel_rfl) (by first|rfl|decide+kernel|(unfold String.splitOn;simp +decide [String.splitOnAux])) (by decide+kernel) (by kernel_rfl)
theorem pyIter_itemiter{it d:Addr}{i n ep:Nat}{ok ov:Value}{Q:Value→Shared→Prop}(hit:IsItemIter s.heap it d i n ep ok ov)(h:Q (.ref it) s):wpAny (model prog w) A (pyIter (.ref it)) Q E s:=by
 have hT:s.TypeIs (.ref it) "dict_itemiterator" :=⟨_,hit,rfl⟩
 refine wpAny_pyIter_slot hT F.slot_dict_itemiterator_iter (wpAny_call_entry F.slot_dict_itemiterator_iter hT entry_itemiter_iter ?_ (F.args_dict_itemiterator_iter_1 _));show wpAny _ _ (ret (.ref it)) _ _ s;exact Qu ⟨_,rfl,"dict_itemiterator",_,hT,F.slot_dict_itemiterator_next.lookup,h⟩
theorem It.items(hh:A.handled=none){I d:Addr}(hne:d≠I){es:Array DictEntry}{ep:Nat}{items:List V}(hlen:items.length=es.size):
 It prog w A I [I,d] [I] items ι true (fun i h=>((∃ok ov,IsItemIter h I d i es.size ep ok ov)∧Jm h d es ep)∧∀(i:Nat) (e:DictEntry) (x:V),items[i]?=some x→es[i]?=some e→∃kx vx,x=.tup [kx,vx]∧VR h ι kx e.key∧VR h ι vx e.val)where
 sub:=fun b hb=>by simp at hb;simp[hb]
 frame:=fun i h h' st hk ht=>by
  refine cps fun qG qK=>?_;obtain⟨⟨⟨ok,ov,he⟩,hd⟩,hv⟩:=st;refine qK ?_;refine⟨⟨⟨ok,ov,hk I (by simp) _ he⟩,hd.at fun o e=>hk d (by simp) o e⟩,fun i e x hx hp=>?_⟩;refine z23 (hv i e x hx hp) fun kx vx h1 h2 h3=>?_;exact⟨kx,vx,h1,h2.mono ht (Q3 _),h3.mono ht (Q3 _)⟩
 notup:=fun i h st b hb vs m ex=>by
  obtain⟨⟨⟨ok,ov,he⟩,hd⟩,hv⟩:=st;rw[Q2 hb,he]at ex;exact absurd ex (by unfold G4;simp)
 live:=fun i h st b hb=>by
  refine cps fun qG qK=>?_;obtain⟨⟨⟨ok,ov,he⟩,hd⟩,hv⟩:=st;refine qK ?_;rw[Q2 hb];exact⟨_,he⟩
 item:=fun i x s Q E target hm hx st hQ=>by
  refine cps fun qG qK=>?_;obtain⟨elts,kk,pos,rfl⟩:=isTup_eq (hm rfl);obtain⟨⟨⟨ok,ov,he⟩,hd⟩,hv⟩:=st;have hi:i<es.size:=by rw[←hlen];exact(Q6 hx).1
  have hei:=Array.getElem?_eq_getElem hi;have hil:I<s.heap.objs.size:=Heap.lt_size he;obtain⟨kx,vx,rfl,h2,h3⟩:=hv i _ x hx hei;refine qK ?_;refine next_item he hd hei fun h' ho hT hk=>⟨_,rfl,?_⟩
  refine wpAny_letOwnedTupleGo_items (s:={s with heap:=h'}) ho fun h2' he2 hs2=>?_;have hk2:∀b o,b∉[I]→s.heap.get? b=some o→h2'.get? b=some o:=fun b o hb y=>
   (hs2.2 b fun e'=>hb (by simp[e'])).trans (hk b o (fun e'=>hb (by simp[e'])) y)
  have ht2:∀a vs n,s.heap.get? a=some (G4 vs n)→h2'.get? a=some (G4 vs n):=fun a vs m ea=>hk2 a _ (fun hb=>by
   rw[Q2 hb,he]at ea;exact absurd ea (by unfold G4;simp)) ea
  have hT2:=(hs2.2 _ (Nat.ne_of_gt hil)).trans hT;refine hQ _ h2' s.toks (.tup hT2 (.cons (h2.mono ht2 (Q3 _)) (.cons (h3.mono ht2 (Q3 _)) .nil))) ⟨⟨⟨_,_,he2⟩,hd.at fun o e=>hk2 d o (by simpa using hne) e⟩,fun j e z hz hp=>?_⟩ hk2;refine z23 (hv j e z hz hp) fun kx' vx' g1 g2 g3=>?_;exact⟨kx',vx',g1,g2.mono ht2 (Q3 _),g3.mono ht2 (Q3 _)⟩
 done:=fun s Q E st hQ=>by
  rw[hlen]at st;obtain⟨⟨⟨ok,ov,he⟩,hd⟩,hv⟩:=st;exact next_item_end hh he hd (Array.getElem?_eq_none (Qs _)) fun h' hx=>hQ h' s.toks fun b o hb y=>hx b o (fun e'=>hb (by simp[e'])) y
 self:=fun i s Q E st hQ=>by
  obtain⟨⟨⟨ok,ov,he⟩,_⟩,_⟩:=st;exact pyIter_itemiter he hQ
structure Jv(prog:Program)(w:World)(B B':Bas)(ι:List Addr)(s:Shared)(src:Src)(many:Bool)(σ₁:Sto)(I:Addr)(s':Shared)(fp wr:List Addr)(St:Nat→Heap→Prop):Prop where
 it:∀A:Around,A.handled=none→It prog w A I fp wr src.items ι many St
 st:St 0 s'.heap
 ext:Ext (prog:=prog) (w:=w) B' ι s σ₁ ι s'
 le:∀b o,B.get? b=some o→B'.get? b=some o
 held:∀b∈fp,b∈wr∨(∃o,B'.get? b=some o)∨∃vs n,s.heap.get? b=some (G4 vs n)
 rel0:Rel prog w B' σ₁ ι s.heap
 fresh:∀b∈wr,s.heap.get? b=none∧∃o,s'.heap.get? b=some o
 back:∀σ' ι' (s'':Shared),Rel prog w B' σ' ι' s''.heap→ι<+:ι'→src.ok σ'=true→Rel prog w B (src.free σ') ι' s''.heap
 fr:∀ρ env h,FrR B ι h ρ env→FrR B' ι h ρ env
theorem FrR.lower{B':Bas}{h:Heap}{ρ:Fr}{env:Env}(hle:∀b o,B.get? b=some o→B'.get? b=some o)(F:FrR B' ι h ρ env):FrR B ι h ρ env:=by
 have hno:∀b,B'.get? b=none→B.get? b=none:=fun b e=>by
  cases hb:B.get? b with
  |none=>rfl
  |some o=>rw[hle b o hb]at e;cases e
 exact{ok:=F.ok,rng:=F.rng,ns:=F.ns,cl:=F.cl,cells:=fun n c hm=>let⟨h1,h2,h3,h4⟩:=F.cells n c hm;⟨h1,h2,h3,hno c h4⟩,apart:=F.apart,locOut:=F.locOut,locNew:=hno _ F.locNew}
theorem Bs.raise{B':Bas}(hbs:Bs prog B)(hle:∀b o,B.get? b=some o→B'.get? b=some o):Bs prog B' where
 two:=let⟨o,e⟩:=hbs.two;⟨o,hle _ _ e⟩
 low:=let⟨H,h1,h2,h3⟩:=hbs.low;⟨H,fun a o e=>hle _ _ (h1 a o e),h2,h3⟩
 tree:=hbs.tree
theorem Src.ok_guard{src:Src}{n:Nat}{o:Ob}(hg:src.guard=some (n,o))(h:src.ok σ=true):σ[n]?=some o:=by
 unfold Src.ok at h;rw[hg]at h;dsimp only at h;split at h
 ·rename_i o' e;rw[(beqOb_iff _ _).mp h]at e;exact e
 ·cases h
theorem lock_all(R:Rel prog w B σ ι s.heap)(hB:∃o,B.get? sysModules=some o){n:Nat}{a:Addr}{o:Ob}(e:σ[n]?=some o)(ea:ι[n]?=some a)(hr:o.isRo=false){h':Heap}{tk:Nat}(hk:∀b o,s.heap.get? b=some o→h'.get? b=some o):
 Ext (prog:=prog) (w:=w) (B.lock s.heap a) ι s (σ.set n o.locked) ι {s with heap:=h',toks:=tk}:=by
 have:=Ext.grown (t:=tk) (R.lock hB e ea hr) hk;exact this
theorem src_start(R:Rel prog w B σ ι s.heap)(hB:∃o,B.get? sysModules=some o){n:Nat}{a:Addr}{o:Ob}(e:σ[n]?=some o)(ea:ι[n]?=some a)(hr:o.isRo=false){items:List V}{I:Addr}{fp wr:List Addr}{St:Nat→Heap→Prop}{many:Bool}{h':Heap}{tk:Nat}
 (hk:∀b o,s.heap.get? b=some o→h'.get? b=some o) (it:∀A:Around,A.handled=none→It prog w A I fp wr items ι many St) (st:St 0 h') (hfp:∀b∈fp,b∈wr∨b=a) (hfr:∀b∈wr,s.heap.get? b=none∧∃o,h'.get? b=some o):
 Jv prog w B (B.lock s.heap a) ι s ⟨items,some (n,o.locked),some (n,o)⟩ many (σ.set n o.locked) I {s with heap:=h',toks:=tk} fp wr St where
 it:=it
 st:=st
 ext:=lock_all R hB e ea hr hk
 le:=Bas.lock_le R
 held:=fun b hb=>(hfp b hb).imp id fun h=>.inl (by
  subst h;refine z11 (R.live (Qf ea)) fun o2 e2=>?_;refine⟨o2,?_⟩;show(if b=b then s.heap.get? b else _)=_;rw[if_pos rfl,e2])
 rel0:=R.lock hB e ea hr
 fresh:=hfr
 back:=fun σ' ι' s'' R' hp hok=>by
  have hg:=Src.ok_guard (n:=n) (o:=o.locked) rfl hok;have ea':ι'[n]?=some a:=by
   obtain⟨t,rfl⟩:=hp;rw[List.getElem?_append_left (Q6 ea).1];exact ea
  exact Rel.unlock (Bas.lock_le R) (R.new n o a e ea hr) R' hg ea'
 fr:=fun ρ env h F=>F.lock (Qf ea)
theorem src_free(R:Rel prog w B σ ι s.heap){items:List V}{I:Addr}{fp wr:List Addr}{St:Nat→Heap→Prop}{many:Bool}{h':Heap}{tk:Nat}
 (hk:∀b o,s.heap.get? b=some o→h'.get? b=some o) (it:∀A:Around,A.handled=none→It prog w A I fp wr items ι many St) (st:St 0 h') (hfp:∀b∈fp,b∈wr∨∃vs n,s.heap.get? b=some (G4 vs n)) (hfr:∀b∈wr,s.heap.get? b=none∧∃o,h'.get? b=some o):
 Jv prog w B B ι s ⟨items,none,none⟩ many σ I {s with heap:=h',toks:=tk} fp wr St where
 it:=it
 st:=st
 ext:=Ext.grown R hk
 le:=fun _ _ e=>e
 held:=fun b hb=>(hfp b hb).imp id .inr
 rel0:=R
 fresh:=hfr
 back:=fun σ' ι' s'' R' hp hok=>R'
 fr:=fun ρ env h F=>F
theorem Yo(h:Heap):h.get? h.objs.size=none:=U3 h
theorem src_plain{v:V}{u:Value}{src:Src}{σ₁:Sto}{Q:Value→Shared→Prop}(R:Rel prog w B σ ι s.heap)(hB:∃o,B.get? sysModules=some o)(r:VR s.heap ι v u)(e:Gx .plain v σ=some (src,σ₁))
 (h:∀B' I s' fp wr St,Jv prog w B B' ι s src false σ₁ I s' fp wr St→Q (.ref I) s'):wpAny (model prog w) A (pyIter u) Q E s:=by
 cases v with
 |tup l=>
  refine VR.tupE r fun a vs m ev q _=>?_;simp only[Gx,Q1,Prod.mk.injEq]at e;obtain⟨rfl,rfl⟩:=e;refine iter_tuple (J4 ev) fun s₂ e₂ st hfp hne=>?_;subst e₂;have hk:∀b o,s.heap.get? b=some o→(s.heap.push {cls:=.type "tuple_iterator",data:=.fields #[.ref a,.int 0 0]}).get? b=some o:=G2 _ _;refine h _ _ _ _ _ _ (src_free (tk:=s.toks) R hk (fun A hA=>It.ofWalks (Walks.tuple (A:=A) hA s.heap.objs.size a hne vs) (J6 q).symm ?_) ⟨st,?_⟩ ?_ ?_)
  ·rintro i h ⟨⟨o,ho,hc,_⟩,_⟩;exact⟨o,_,ho,hc,by decide,by decide⟩
  ·intro i v x hx hv;refine z12 (q.get i x hx) fun v' hv' rv=>?_;rw[Array.getElem?_toList]at hv';rw[hv]at hv';cases hv';exact rv.mono (fun _ _ _ e=>hk _ _ e) (Q3 _)
  ·intro b hb;rcases Q5 hb with rfl|hb
   ·exact .inl (List.mem_singleton.mpr rfl)
   ·exact .inr ⟨vs,m,by rw[Q2 hb];exact ev⟩
  ·intro b hb;rw[Q2 hb];exact⟨Yo _,_,Qv _ rfl⟩
 |loc n=>
  refine VR.locE r fun a ea=>?_;simp only[Gx]at e;split at e
  ·rename_i l hl;simp only[Q1,Prod.mk.injEq]at e;obtain⟨rfl,rfl⟩:=e;refine z22 (R.obs n _ a hl ea) fun vs m ev q=>?_;refine iter_list (Ga ev) fun s₂ e₂ st hfp hne=>?_;subst e₂;have hk:∀b o,s.heap.get? b=some o→(s.heap.push {cls:=.type "list_iterator",data:=.fields #[.ref a,.int 0 0]}).get? b=some o:=G2 _ _;refine h _ _ _ _ _ _ (src_start (tk:=s.toks) (o:=.list l) R hB hl ea rfl hk (fun A hA=>It.ofWalks (Walks.list (A:=A) hA s.heap.objs.size a hne vs) (J6 q).symm ?_) ⟨st,?_⟩ ?_ ?_)
   ·rintro i h ⟨⟨o,ho,hc,_⟩,_⟩;exact⟨o,_,ho,hc,by decide,by decide⟩
   ·intro i v x hx hv;refine z12 (q.get i x hx) fun v' hv' rv=>?_;rw[Array.getElem?_toList]at hv';rw[hv]at hv';cases hv';exact rv.mono (fun _ _ _ e=>hk _ _ e) (Q3 _)
   ·intro b hb;rcases Q5 hb with rfl|hb
    ·exact .inl (List.mem_singleton.mpr rfl)
    ·exact .inr (Q2 hb)
   ·intro b hb;rw[Q2 hb];exact⟨Yo _,_,Qv _ rfl⟩
  ·rename_i es hl;simp only[Q1,Prod.mk.injEq]at e;obtain⟨rfl,rfl⟩:=e;refine cps fun qG qK=>?_;refine z12 (R.obs n _ a hl ea) fun Qy dd qq=>?_;obtain⟨od,des,ep,hod,hcd,hdd,hed,hid,hnd⟩:=id dd;refine qK ?_;have hlt:a<s.heap.objs.size:=Heap.lt_size hod;have hm:Jm s.heap a des ep:=⟨od,hod,hcd.1,hdd⟩
   have hlen:es.length=des.size:=by rw[qq.length,size_of_entries hed]
   refine iter_dict (Jt hB (R.new n _ a hl ea rfl)) hm ?_;have hk:∀b o,s.heap.get? b=some o→(s.heap.push {cls:=.type "dict_keyiterator",data:=.fields #[.ref a,.int 0 0,.int des.size 0,.int ep 0]}).get? b=some o:=G2 _ _;refine h _ _ _ _ _ _ (src_start (tk:=s.toks) (o:=.dict es) R hB hl ea rfl hk (fun A hA=>It.ofWalks (Walks.rawKeys (A:=A) hA s.heap.objs.size a (Nat.ne_of_lt hlt) des ep) (by rw[Qi];exact hlen) ?_) ⟨⟨?_,hm.at fun o e=>hk _ _ e⟩,?_⟩ ?_ ?_)
   ·rintro i h ⟨⟨o,ho,hc,_⟩,_⟩;exact⟨o,_,ho,hc,by decide,by decide⟩
   ·exact⟨_,Qv _ rfl,rfl,rfl⟩
   ·rintro i v x hx ⟨e,he,rfl⟩;rw[Qd,Option.map_eq_some_iff]at hx;obtain⟨⟨kk,y⟩,hy,rfl⟩:=hx;refine z13 (qq.getE i kk y hy) fun p hp r1 r2=>?_;rw[entry_at hed i,hp]at he;cases he;exact r1.mono (fun _ _ _ e=>hk _ _ e) (Q3 _)
   ·intro b hb;rcases Q5 hb with rfl|hb
    ·exact .inl (List.mem_singleton.mpr rfl)
    ·exact .inr (Q2 hb)
   ·intro b hb;rw[Q2 hb];exact⟨Yo _,_,Qv _ rfl⟩
  ·cases e
 |_=>simp[Gx]at e
theorem src_range{v:V}{u:Value}{src:Src}{σ₁:Sto}{Q:Value→Shared→Prop}(R:Rel prog w B σ ι s.heap)(r:VR s.heap ι v u)(e:Gx .range v σ=some (src,σ₁))
 (h:∀B' I s' fp wr St,Jv prog w B B' ι s src false σ₁ I s' fp wr St→Q (.ref I) s'):wpAny (model prog w) A (call (.type "range") [u]) (fun x s₁=>wpAny (model prog w) A (pyIter x) Q E s₁) E s:=by
 cases v with
 |int n=>
  refine VR.intE r fun t=>?_;simp only[Gx]at e;split at e
  ·rename_i hn;simp only[Q1,Prod.mk.injEq]at e;obtain⟨rfl,rfl⟩:=e;refine call_range_1 ?_;have hsize:Builtin.Range.rangeSize 0 n 1=n:=by rw[rangeSize_one];split<;>lia
   have hsmall:Builtin.Range.small 0 n 1=true:=by
    unfold Builtin.Range.small Builtin.Range.rangeFitsLong;rw[hsize];simp;lia
   refine wpAny_pyIter_range (IsRange.new _ _ _ _ _ _ _) hsmall ?_;rw[hsize];have hz:(s.heap.push {cls:=.type "range",data:=.fields #[.int 0 s.toks,.int n t,.int 1 (s.toks+1)]}).objs.size=s.heap.objs.size+1:=Heap.size_push ..;have hk:∀b o,s.heap.get? b=some o→((s.heap.push {cls:=.type "range",data:=.fields #[.int 0 s.toks,.int n t,.int 1 (s.toks+1)]}).push {cls:=.type "range_iterator",data:=.fields #[rawInt 0,rawInt n,rawInt 1]}).get? b=some o:=fun b o e=>G2 _ _ _ _ (G2 _ _ _ _ e);refine h _ _ _ _ _ _ (src_free (tk:=s.toks+1+1) R hk (fun A hA=>It.ofWalks (Walks.range (A:=A) hA _ 0 1 n.toNat) (by simp[Zc]) ?_) ⟨?_,?_⟩ ?_ ?_)
   ·rintro i h hi;exact⟨_,_,hi,rfl,by decide,by decide⟩
   ·have e0:(0:Int)+((0:Nat):Int)*1=0:=rfl;have e1:((n.toNat:Int))-((0:Nat):Int)=n:=by lia
    rw[e0,e1];exact Qv _ rfl
   ·rintro i v x hx ⟨t,rfl⟩;unfold Zc at hx;rw[Qd,Option.map_eq_some_iff]at hx;obtain⟨j,hj,rfl⟩:=hx;have:j=i:=by
     rw[List.getElem?_range (by have:=(Q6 hj).1;simpa using this)]at hj;exact(Option.some.inj hj).symm
    subst this;have e2:(0:Int)+(j:Int)*1=Int.ofNat j:=by simp
    rw[e2];exact .int _ _
   ·intro b hb;exact .inl hb
   ·intro b hb;rw[Q2 hb];refine⟨?_,_,Qv _ rfl⟩;rw[hz];cases e:s.heap.get? (s.heap.objs.size+1)with
    |none=>rfl
    |some o=>exact absurd (Heap.lt_size e) (Nat.not_lt.mpr (Nat.le_succ _))
  ·cases e
 |_=>simp[Gx]at e
theorem U0{h:Heap}{n:Nat}(hn:h.objs.size≤n):h.get? n=none:=Heap.get?_none_of_le hn
theorem src_enum{v:V}{u:Value}{src:Src}{σ₁:Sto}{Q:Value→Shared→Prop}(R:Rel prog w B σ ι s.heap)(hB:∃o,B.get? sysModules=some o)(r:VR s.heap ι v u)(e:Gx .enum v σ=some (src,σ₁))
 (h:∀B' I s' fp wr St,Jv prog w B B' ι s src true σ₁ I s' fp wr St→Q (.ref I) s'):wpAny (model prog w) A (call (.type "enumerate") [u]) (fun x s₁=>wpAny (model prog w) A (pyIter x) Q E s₁) E s:=by
 cases v with
 |tup l=>
  refine VR.tupE r fun a vs m ev q _=>?_;simp only[Gx,Q1,Prod.mk.injEq]at e;obtain⟨rfl,rfl⟩:=e;refine call_enum_tuple ev fun h' he hit hk=>?_;refine wpAny_pyIter_enum (s:={s with heap:=h'}) he ?_;have hlt:a<s.heap.objs.size:=Heap.lt_size ev;have hilt:s.heap.objs.size≠s.heap.objs.size+1:=Nat.ne_of_lt (Nat.lt_succ_self _);refine h _ _ _ _ _ _ (src_free (tk:=s.toks) (I:=s.heap.objs.size+1) R hk (fun A hA=>It.enum (drawTuple (A:=A.in1) (by show A.handled=none;exact hA) s.heap.objs.size a (Nat.ne_of_lt hlt) vs) (Ne.symm hilt) ?_ (by simp) (J6 q).symm ?_) ⟨⟨⟨_,he⟩,hit,J4 (hk _ _ ev)⟩,?_⟩ ?_ ?_)
  ·intro hb;rcases Q5 hb with hb|hb
   ·exact hilt hb.symm
   ·exact absurd hlt (by rw[←Q2 hb];exact Nat.not_lt.mpr (Nat.le_succ _))
  ·rintro i h ⟨⟨o,ho,hc,_⟩,_⟩;exact⟨o,_,ho,hc,by decide⟩
  ·intro i v x hx hv;refine z12 (q.get i x hx) fun v' hv' rv=>?_;rw[Array.getElem?_toList]at hv';rw[hv]at hv';cases hv';exact rv.mono (fun _ _ _ e=>hk _ _ e) (Q3 _)
  ·intro b hb;rcases Q5 hb with rfl|hb
   ·exact .inl (by simp)
   ·rcases Q5 hb with rfl|hb
    ·exact .inl (by simp)
    ·exact .inr ⟨vs,m,by rw[Q2 hb];exact ev⟩
  ·intro b hb;rcases Q5 hb with rfl|hb
   ·exact⟨U0 (Nat.le_succ _),_,he⟩
   ·rw[Q2 hb];refine z12 hit fun o ho _=>?_;exact⟨Yo _,o,ho⟩
 |loc n=>
  obtain⟨a,rfl,ea⟩:=r.loc_ref;simp only[Gx]at e;split at e
  ·rename_i l hl;simp only[Q1,Prod.mk.injEq]at e;obtain⟨rfl,rfl⟩:=e;refine z22 (R.obs n _ a hl ea) fun vs m ev q=>?_;refine call_enumerate_list (Ga ev) fun h' he hit hz hk=>?_;refine wpAny_pyIter_enum (s:={s with heap:=h'}) he ?_;have hlt:a<s.heap.objs.size:=Heap.lt_size ev;have hilt:s.heap.objs.size≠s.heap.objs.size+1:=Nat.ne_of_lt (Nat.lt_succ_self _);refine h _ _ _ _ _ _ (src_start (tk:=s.toks) (I:=s.heap.objs.size+1) (o:=.list l) R hB hl ea rfl hk (fun A hA=>It.enum (Draws.list (A:=A.in1) (by show A.handled=none;exact hA) s.heap.objs.size a (Nat.ne_of_lt hlt) vs) (Ne.symm hilt) ?_ (by simp) (J6 q).symm ?_) ⟨⟨⟨_,he⟩,hit,Ga (hk _ _ ev)⟩,?_⟩ ?_ ?_)
   ·intro hb;rcases Q5 hb with hb|hb
    ·exact hilt hb.symm
    ·exact absurd hlt (by rw[←Q2 hb];exact Nat.not_lt.mpr (Nat.le_succ _))
   ·rintro i h ⟨⟨o,ho,hc,_⟩,_⟩;exact⟨o,_,ho,hc,by decide⟩
   ·intro i v x hx hv;refine z12 (q.get i x hx) fun v' hv' rv=>?_;rw[Array.getElem?_toList]at hv';rw[hv]at hv';cases hv';exact rv.mono (fun _ _ _ e=>hk _ _ e) (Q3 _)
   ·intro b hb;rcases Q5 hb with rfl|hb
    ·exact .inl (by simp)
    ·rcases Q5 hb with rfl|hb
     ·exact .inl (by simp)
     ·exact .inr (Q2 hb)
   ·intro b hb;rcases Q5 hb with rfl|hb
    ·exact⟨U0 (Nat.le_succ _),_,he⟩
    ·rw[Q2 hb];refine z12 hit fun o ho _=>?_;exact⟨Yo _,o,ho⟩
  ·cases e
 |_=>simp[Gx]at e
theorem src_items{v:V}{u:Value}{src:Src}{σ₁:Sto}{Q:Value→Shared→Prop}(R:Rel prog w B σ ι s.heap)(hB:∃o,B.get? sysModules=some o)(r:VR s.heap ι v u)(e:Gx .items v σ=some (src,σ₁))
 (h:∀B' I s' fp wr St,Jv prog w B B' ι s src true σ₁ I s' fp wr St→Q (.ref I) s'):wpAny (model prog w) A (call (.builtin "dict.items") [u]) (fun x s₁=>wpAny (model prog w) A (pyIter x) Q E s₁) E s:=by
 cases v with
 |loc n=>
  obtain⟨a,rfl,ea⟩:=r.loc_ref;simp only[Gx]at e;split at e
  ·rename_i es hl;simp only[Q1,Prod.mk.injEq]at e;obtain⟨rfl,rfl⟩:=e;refine cps fun qG qK=>?_;refine z12 (R.obs n _ a hl ea) fun Qy dd qq=>?_;obtain⟨od,des,ep,hod,hcd,hdd,hed,hid,hnd⟩:=id dd;refine qK ?_;have hlt:a<s.heap.objs.size:=Heap.lt_size hod;have hm:Jm s.heap a des ep:=⟨od,hod,hcd.1,hdd⟩
   have hlen:es.length=des.size:=by rw[qq.length,size_of_entries hed]
   refine call_items (Jt hB (R.new n _ a hl ea rfl)) hm ?_;have hm1:Jm (s.heap.push {cls:=.type "dict_items",data:=.fields #[.ref a]}) a des ep:=hm.at fun o e=>G2 _ _ _ _ e;refine iter_items (s:={s with heap:=s.heap.push {cls:=.type "dict_items",data:=.fields #[.ref a]}}) ⟨_,Qv _ rfl,rfl,rfl⟩ hm1 ?_;have hz:(s.heap.push {cls:=.type "dict_items",data:=.fields #[.ref a]}).objs.size=s.heap.objs.size+1:=Heap.size_push ..;have hk:∀b o,s.heap.get? b=some o→((s.heap.push {cls:=.type "dict_items",data:=.fields #[.ref a]}).push {cls:=.type "dict_itemiterator",data:=.fields #[.none,.bool false,.ref a,.int 0 0,.int des.size 0,.int ep 0,.none,.none]}).get? b=some o:=fun b o e=>G2 _ _ _ _ (G2 _ _ _ _ e);have hne:a≠(s.heap.push {cls:=.type "dict_items",data:=.fields #[.ref a]}).objs.size:=by rw[hz];exact Nat.ne_of_lt (Nat.lt_succ_of_lt hlt)
   refine h _ _ _ _ _ _ (src_start (tk:=s.toks) (I:=(s.heap.push {cls:=.type "dict_items",data:=.fields #[.ref a]}).objs.size) (o:=.dict es) R hB hl ea rfl hk (fun A hA=>It.items (A:=A) hA hne (by rw[Qi];exact hlen)) ⟨⟨⟨.none,.none,?_⟩,hm.at fun o e=>hk _ _ e⟩,?_⟩ ?_ ?_)
   ·exact Qv _ rfl
   ·rintro i e x hx he;rw[Qd,Option.map_eq_some_iff]at hx;obtain⟨⟨kk,y⟩,hy,rfl⟩:=hx;refine z13 (qq.getE i kk y hy) fun p hp r1 r2=>?_;rw[entry_at hed i,hp]at he;cases he;exact⟨_,_,rfl,r1.mono (fun _ _ _ e=>hk _ _ e) (Q3 _),r2.mono (fun _ _ _ e=>hk _ _ e) (Q3 _)⟩
   ·intro b hb;rcases Q5 hb with rfl|hb
    ·exact .inl (List.mem_singleton.mpr rfl)
    ·exact .inr (Q2 hb)
   ·intro b hb;rw[Q2 hb];exact⟨U0 (by rw[hz];exact Nat.le_succ _),_,Qv _ rfl⟩
  ·cases e
 |_=>simp[Gx]at e
noncomputable def Shp.nm(s:Shp)(x:Nat):Bool:=match s with
 |.name id _=>decide (id=TK.nm x)
 |_=>false
noncomputable def mNames:List Nat→List PySem.Expr→Bool
 |[],[]=>true
 |x::xs,e::es=>(shp e).nm x&&mNames xs es
 |_,_=>false
noncomputable def Shp.many(s:Shp)(xs:List Nat):Bool:=match s with
 |.tup es _ _=>mNames xs es
 |_=>false
noncomputable def mTg(t:Tg)(e:PySem.Expr):Bool:=match t with
 |.one x=>(shp e).nm x
 |.many xs=>(shp e).many xs
theorem mT_one{x:Nat}{e:PySem.Expr}(h:(shp e).nm x=true):∃p,e=.Name (nm x) p:=by
 have i:=shp_is e;revert h i;generalize shp e=s;intro h i;cases s with
 |name id p=>exact⟨p,of_decide_eq_true h▸i⟩
 |_=>exact nomatch h
theorem mN_cons{x:Nat}{xs:List Nat}{e:PySem.Expr}{es:List PySem.Expr}(h:mNames (x::xs) (e::es)=true):∃p,e=.Name (nm x) p∧mNames xs es=true:=
 zA2 (Bool.and_eq_true_iff.mp h) fun h1 h2=>z11 (mT_one h1) fun p e=>⟨p,e,h2⟩
theorem mT_many{xs:List Nat}{e:PySem.Expr}(h:mTg (.many xs) e=true):∃es k p,e=.Tuple es k p∧mNames xs es=true:=by
 have i:=shp_is e;have h:(shp e).many xs=true:=h;revert h i;generalize shp e=s;intro i h;cases s with
 |tup es k p=>exact⟨es,k,p,i,h⟩
 |_=>exact nomatch h
theorem mNames_each{env:Env}:∀{xs:List Nat} {es:List PySem.Expr},mNames xs es=true→(assignEach es env).length=xs.length∧(assignEach es env).findIdx? (·.1)=none
 |[],[],_=>⟨rfl,rfl⟩
 |[],_::_,h|_::_,[],h=>nomatch h
 |x::xs,e::es,h=>z12 (mN_cons h) fun p e h=>e▸zA2 (mNames_each (env:=env) h) fun h1 h2=>⟨congrArg Nat.succ h1,by
  show((false,assign (.Name (nm x) p) env)::assignEach es env).findIdx? (·.1)=none;rw[List.findIdx?_cons,h2];rfl⟩
theorem Z0{ρ':Fr}:∀{xs:List Nat} {l:List V} {ρ:Fr},upds xs l ρ=some ρ'→xs.length=l.length
 |[],[],_,_=>rfl
 |[],_::_,_,e|_::_,[],_,e=>nomatch e
 |_::xs,_::ys,_,e=>congrArg Nat.succ (Z0 (xs:=xs) (l:=ys) e)
noncomputable def StOk(prog:Program)(w:World)(A:Around)(B:Bas)(env:Env)(own':Addr→Prop)(x:Nat):Prop:=∀{ι:List Addr} {σ:Sto} {s:Shared} {ρ:Fr} {v:V} {u:Value} {Q:Unit→Shared→Prop} {E:Value→Shared→Prop},FrR B ι s.heap ρ env→Rel prog w B σ ι s.heap→VR s.heap ι v u→
 (∀s',Gs (prog:=prog) (w:=w) own' B ι s σ ι s'→FrR B ι s'.heap (upd ρ x v) env→Q () s')→wpAny (model prog w) A (storeName env (nm x) u) Q E s
theorem assign_namesG{own':Addr→Prop}{ρ':Fr}{env:Env}(ho:∀a,own' a→own env a):∀{xs:List Nat} {es:List PySem.Expr} {l:List V} {vs:List Value} {σ:Sto} {s:Shared} {ρ:Fr} {Q:Unit→Shared→Prop},mNames xs es=true→(∀x∈xs,StOk prog w A B env own' x)→Rel prog w B σ ι s.heap→FrR B ι s.heap ρ env→VsR s.heap ι l vs→upds xs l ρ=some ρ'→
 (∀s',Gs (prog:=prog) (w:=w) own' B ι s σ ι s'→FrR B ι s'.heap ρ' env→Q () s')→wpAny (model prog w) A (assignInOrder ((assignEach es env).map (·.2)) vs) Q E s
 |[],[],[],vs,σ,s,ρ,Q,_,_,R,F,q,e,h=>(show vs=[]from q.fwd)▸Qu (h s (Gs.refl R) (Option.some.inj e▸F))
 |[],[],_::_,_,_,_,_,_,_,_,_,_,_,e,_|_::_,_,[],_,_,_,_,_,_,_,_,_,_,e,_=>nomatch e
 |[],_::_,_,_,_,_,_,_,hm,_,_,_,_,_,_|_::_,[],_::_,_,_,_,_,_,hm,_,_,_,_,_,_=>nomatch hm
 |x::xs,e0::es,y::ys,vs,σ,s,ρ,Q,hm,hc,R,F,q,e,h=>z12 (mN_cons hm) fun p e0 hm2=>z23 q.fwd fun v us ev a b=>by
  subst e0 ev;show wpAny _ _ (holding us (assign (.Name (nm x) p) env v) >>= fun _=>assignInOrder ((assignEach es env).map (·.2)) us) _ _ _;refine Qt (wpAny_holding (wpAny_assign_Name (hc x (.head _) F R a fun s₁ x₁ F₁=>?_)));exact assign_namesG ho hm2 (fun y hy=>hc y (.tail _ hy)) x₁.rel F₁ (b.mono (x₁.tups R fun a vs n e ha=>F.tups a vs n e (ho a ha)) (Q3 _)) e fun s' x₂ F₂=>h s' (x₁.trans x₂) F₂
theorem assign_sndG{own':Addr→Prop}{t:Tg}{target:PySem.Expr}{ρ ρ':Fr}{env:Env}{v:V}{u:Value}{Q:Unit→Shared→Prop}(ho:∀a,own' a→own env a)(hh:A.handled=none)(hm:mTg t target=true)(hc:∀x∈t.vars,StOk prog w A B env own' x)(R:Rel prog w B σ ι s.heap)(F:FrR B ι s.heap ρ env)(r:VR s.heap ι v u)(e:Uk t v ρ=some ρ')
 (h:∀s',Gs (prog:=prog) (w:=w) own' B ι s σ ι s'→FrR B ι s'.heap ρ' env→Q () s'):wpAny (model prog w) A (assign target env u) Q E s:=by
 cases t with
 |one x=>exact z11 (mT_one hm) fun p et=>et▸wpAny_assign_Name (hc x (.head _) F R r (Option.some.inj e▸h))
 |many xs=>
  refine z32 (mT_many hm) fun es kk p et hm=>et▸ ?_;cases v with
  |tup l=>
   refine VR.tupE r fun a vs n ev q _=>zA2 (mNames_each (env:=env) hm) fun h1 h2=>?_;refine wpAny_assign_Tuple hh (J4 ev) (by rw[h1,Z0 e,J6 q]) h2 fun h' he=>?_;have hk:∀b o,s.heap.get? b=some o→h'.get? b=some o:=fun b o eb=>he b o (Nat.ne_of_lt (Heap.lt_size eb)) eb;have x₀:Ext (prog:=prog) (w:=w) B ι s σ ι {s with heap:=h',toks:=s.toks}:=Ext.grown R hk;exact assign_namesG ho hm hc x₀.rel (F.ext' R x₀) (q.mono (fun _ _ _ e=>hk _ _ e) (Q3 _)) e fun s' x₁ F₁=>h s' (x₀.weak.trans x₁) F₁
  |_=>exact nomatch e
theorem assign_snd{t:Tg}{target:PySem.Expr}{ρ ρ':Fr}{env:Env}{v:V}{u:Value}{Q:Unit→Shared→Prop}(hh:A.handled=none)(hm:mTg t target=true)(hc:∀x∈t.vars,Y9 env x)(R:Rel prog w B σ ι s.heap)(F:FrR B ι s.heap ρ env)(r:VR s.heap ι v u)(e:Uk t v ρ=some ρ')
 (h:∀s',Gs (prog:=prog) (w:=w) (own env) B ι s σ ι s'→FrR B ι s'.heap ρ' env→Q () s'):wpAny (model prog w) A (assign target env u) Q E s:=
 assign_sndG (fun _ h=>h) hh hm (fun x hx=> @fun _ _ _ _ _ _ _ _ F R r h=>F.store R (hc x hx) r h) R F r e h
theorem assign_sndL{t:Tg}{target:PySem.Expr}{ρ ρ':Fr}{env:Env}{v:V}{u:Value}{Q:Unit→Shared→Prop}(hh:A.handled=none)(hm:mTg t target=true)(hc:∀x∈t.vars,x<56∧env.kindOf (nm x)=some .local)(R:Rel prog w B σ ι s.heap)(F:FrR B ι s.heap ρ env)(r:VR s.heap ι v u)(e:Uk t v ρ=some ρ')
 (h:∀s',Gs (prog:=prog) (w:=w) (fun a=>a=env.locals) B ι s σ ι s'→FrR B ι s'.heap ρ' env→Q () s'):wpAny (model prog w) A (assign target env u) Q E s:=
 assign_sndG (fun _ h=>.inl h) hh hm (fun x hx=> @fun _ _ _ _ _ _ _ _ F R r h=>F.storeL R (hc x hx) r h) R F r e h
inductive FlR(h:Heap)(ι:List Addr):Fl→Flow→Prop
 |next:FlR h ι .next .next
 |cont:FlR h ι .cont .cont
 |ret {v:V} {u:Value}:VR h ι v u→FlR h ι (.ret v) (.ret u)
noncomputable def J8(prog:Program)(w:World)(A:Around)(B:Bas)(env:Env)(ex:Fr→Sto→Option (Fl×Fr×Sto))(t:Sem Flow):Prop:=
 ∀(ι:List Addr) (σ:Sto) (s:Shared) (ρ:Fr) (fl:Fl) (ρ':Fr) (σ':Sto) (Q:Flow→Shared→Prop) (E:Value→Shared→Prop),Rel prog w B σ ι s.heap→FrR B ι s.heap ρ env→ex ρ σ=some (fl,ρ',σ')→
  (∀ι' s' f,Gs (prog:=prog) (w:=w) (own env) B ι s σ' ι' s'→FrR B ι' s'.heap ρ' env→FlR s'.heap ι' fl f→Q f s')→wpAny (model prog w) A t Q E s
theorem Jv.wrOut{B':Bas}{src:Src}{many:Bool}{σ₁:Sto}{I:Addr}{s':Shared}{fp wr:List Addr}{St:Nat→Heap→Prop}(S:Jv prog w B B' ι s src many σ₁ I s' fp wr St)(R:Rel prog w B σ ι s.heap){ι₂:List Addr}(hf:∀a∈ι₂,a∈ι∨s'.heap.get? a=none):∀b∈wr,b∉ι₂:=fun b hb hi=>
 zA2 (S.fresh b hb) fun h1 h2=>(hf b hi).elim (fun h=>z11 (R.live h) fun _ e=>J0 h1 e) fun h=>z11 h2 fun _ e=>J0 h e
theorem Jv.wrB{B':Bas}{src:Src}{many:Bool}{σ₁:Sto}{I:Addr}{s':Shared}{fp wr:List Addr}{St:Nat→Heap→Prop}(S:Jv prog w B B' ι s src many σ₁ I s' fp wr St):∀b∈wr,B'.get? b=none:=fun b hb=>S.rel0.noB (S.fresh b hb).1
theorem FrR.wide{h h':Heap}{ρ:Fr}{env:Env}(G:FrR B ι h ρ env)(hk:∀a,own env a→∀o,h.get? a=some o→h'.get? a=some o)(hkt:∀a vs n,h.get? a=some (G4 vs n)→h'.get? a=some (G4 vs n)):FrR B ι h' ρ env:=G.keeps hk hkt (Q3 _) G.ownOut
theorem Gs.wide{ow:Addr→Prop}{W:List Addr}{σ₂:Sto}{ι₂:List Addr}{s₂:Shared}{h':Heap}{tk:Nat}(x:Gs (prog:=prog) (w:=w) ow B ι s σ₂ ι₂ s₂)(hf:∀b∈W,s.heap.get? b=none)(hBn:∀b∈W,B.get? b=none)(hw:∀b∈W,b∉ι₂)(hnt:∀b∈W,∀vs n,s₂.heap.get? b≠some (G4 vs n))
 (hk:∀b o,b∉W→s₂.heap.get? b=some o→h'.get? b=some o):Gs (prog:=prog) (w:=w) ow B ι s σ₂ ι₂ {s₂ with heap:=h',toks:=tk}where
 same:=z21 x.same fun _ _ e=>⟨h',tk,by rw[e]⟩
 pre:=x.pre
 fresh:=x.fresh
 live:=fun a o e=>z11 (x.live a o e) fun o' e'=>⟨o',hk a o' (fun hb=>J0 (hf a hb) e) e'⟩
 keep:=fun a o e hn ho=>hk a o (fun hb=>J0 (hf a hb) e) (x.keep a o e hn ho)
 rel:={len:=x.rel.len,nodup:=x.rel.nodup,base:=fun b o e=>hk b o (fun hb=>J0 (hBn b hb) e) (x.rel.base b o e),obs:=fun n o a e ea=>(x.rel.obs n o a e ea).mono (fun o e=>hk _ _ (fun hb=>hw _ hb (Qf ea)) e) (fun a vs n e=>hk a _ (fun hb=>hnt a hb vs n e) e) (Q3 _),new:=x.rel.new}
theorem Jv.frame{own':Addr→Prop}{B':Bas}{src:Src}{many:Bool}{σ₁ σ₂ σ₅:Sto}{I:Addr}{s₀ s₂ s₅:Shared}{fp wr:List Addr}{St:Nat→Heap→Prop}{ι₂ ι₅:List Addr}{i:Nat}(S:Jv prog w B B' ι s src many σ₁ I s₀ fp wr St)(It:It prog w A I fp wr src.items ι many St)
 (X:Gs (prog:=prog) (w:=w) own' B' ι s σ₂ ι₂ s₂) (Z:Gs (prog:=prog) (w:=w) own' B' ι₂ s₂ σ₅ ι₅ s₅) (st:St i s₂.heap) (hto:∀a vs n,s₂.heap.get? a=some (G4 vs n)→¬own' a) (htv:∀a vs n,s.heap.get? a=some (G4 vs n)→¬own' a) (hw:∀b∈wr,b∉ι₂) (hwo:∀b∈wr,¬own' b):
 St i s₅.heap∧∀b∈wr,b∉ι₅:=
 have ht:=Z.tups X.rel hto
 ⟨It.frame _ _ _ st (fun b hb o eb=>(S.held b hb).elim (fun h1=>Z.keep b o eb (hw b h1) (hwo b h1)) fun h=>h.elim (fun h=>z11 h fun o' h1=>Option.some.inj ((X.rel.base _ _ h1).symm.trans eb)▸Z.rel.base _ _ h1) fun h=>z21 h fun vs n h1=>
  have e1:=X.tups S.rel0 htv _ _ _ h1
  Option.some.inj (e1.symm.trans eb)▸ht _ _ _ e1) ht,fun b hb hbi=>(Z.fresh b hbi).elim (hw b hb) fun h1=>z11 (It.live _ _ st b hb) fun _ e=>J0 h1 e⟩
theorem drop_nil{α:Type}{l:List α}{i:Nat}(hi:i≤l.length)(h:l.drop i=[]):i=l.length:=Nat.le_antisymm hi (List.drop_eq_nil_iff.mp h)
theorem drop_cons{α:Type}{l:List α}{i:Nat}{x:α}{xs:List α}(h:l.drop i=x::xs):l[i]?=some x∧l.drop (i+1)=xs∧i+1≤l.length:=by
 have h0:(l.drop i)[0]?=some x:=by rw[h];rfl
 rw[List.getElem?_drop,Nat.add_zero]at h0;exact⟨h0,by rw[←List.tail_drop,h];rfl,Yc h0⟩
theorem if_some{α:Type}{c:Prop}[Decidable c]{a:Option α}{r:α}(e:(if c then a else none)=some r):c∧a=some r:=by
 by_cases h:c
 ·exact⟨h,(if_pos h).symm.trans e⟩
 ·exact nomatch (if_neg h).symm.trans e
theorem lF_cons{src:Src}{bd:V→Fr→Option Fr}{ex:Fr→Sto→Option (Fl×Fr×Sto)}{x:V}{xs:List V}{ρ:Fr}{r:Fl×Fr×Sto}(e:loopF src bd ex (x::xs) ρ σ=some r):
 src.ok σ=true∧∃ρ₁,bd x ρ=some ρ₁∧∃f ρ₂ σ₂,ex ρ₁ σ=some (f,ρ₂,σ₂)∧((∃v,f=.ret v∧src.ok σ₂=true∧(Fl.ret v,ρ₂,src.free σ₂)=r)∨((∀v,f≠.ret v)∧loopF src bd ex xs ρ₂ σ₂=some r)):=by
 refine zA2 (if_some e) fun hok e=>⟨hok,?_⟩
 cases hb:bd x ρ with
 |none=>rw[hb]at e;exact nomatch e
 |some ρ₁=>
  rw[hb]at e;refine⟨ρ₁,rfl,?_⟩;have e:(match ex ρ₁ σ with
   |some (Fl.ret v,ρ',σ')=>if src.ok σ' then some (Fl.ret v,ρ',src.free σ')else none
   |some (_,ρ',σ')=>loopF src bd ex xs ρ' σ'
   |none=>none)=some r:=e
  cases hx:ex ρ₁ σ with
  |none=>rw[hx]at e;exact nomatch e
  |some q=>
   rw[hx]at e;obtain⟨f,ρ₂,σ₂⟩:=q;refine⟨f,ρ₂,σ₂,rfl,?_⟩;cases f with
   |ret v=>exact .inl ⟨v,rfl,(if_some e).1,Option.some.inj (if_some e).2⟩
   |next|cont=>exact .inr ⟨fun _ h=>(nomatch h),e⟩
theorem for_snd{B':Bas}{src:Src}{many:Bool}{σ₁:Sto}{I:Addr}{s₀:Shared}{fp wr:List Addr}{St:Nat→Heap→Prop}{t:Tg}{target:PySem.Expr}{body:List Stmt}{env:Env}{ex:Fr→Sto→Option (Fl×Fr×Sto)}{fl:Fl}{ρ ρ':Fr}{σ':Sto}{Q:Flow→Shared→Prop}
 (hh:A.handled=none) (S:Jv prog w B B' ι s src many σ₁ I s₀ fp wr St) (R:Rel prog w B σ ι s.heap) (F:FrR B ι s.heap ρ env) (hm:mTg t target=true) (hmany:many=true→Z6 target=true) (hc:∀x∈t.vars,Y9 env x) (hb:J8 prog w A B' env ex (execs body env))
 (e:loopF src (Uk t) ex src.items ρ σ₁=some (fl,ρ',σ'))
 (h:∀ι' s' f,Gs (prog:=prog) (w:=w) (own env) B ι s σ' ι' s'→FrR B ι' s'.heap ρ' env→FlR s'.heap ι' fl f→Q f s'):
 codeAny (model prog w) A (.forLoop target (.ref I) body [] env) (fun r s'=>match r with|.ok f=>Q f s'|.error e=>cameBackBy (model prog w) A env E e s') s₀:=by
 have It:=S.it A hh;have F₁:=S.fr _ _ _ F;have hwo:∀b∈wr,¬own env b:=fun b hb ho=>z11 (F.ownLive b ho) fun _ e=>J0 (S.fresh b hb).1 e;have lower:∀{σ₂:Sto} {ι₂:List Addr} {s₂:Shared},Gs (prog:=prog) (w:=w) (own env) B' ι s σ₂ ι₂ s₂→src.ok σ₂=true→Gs (prog:=prog) (w:=w) (own env) B ι s (src.free σ₂) ι₂ s₂:=fun x hok=>
  {same:=x.same,pre:=x.pre,fresh:=x.fresh,live:=x.live,keep:=x.keep,rel:=S.back _ _ _ x.rel x.pre hok}
 let J:Nat→Shared→Prop:=fun n s'=>∀{P:Prop},(∀i rest ρ₁ σ₂ ι₂,rest.length=n→src.items.drop i=rest→i≤src.items.length→Gs (prog:=prog) (w:=w) (own env) B' ι s σ₂ ι₂ s'→FrR B' ι₂ s'.heap ρ₁ env→St i s'.heap→(∀b∈wr,b∉ι₂)→loopF src (Uk t) ex rest ρ₁ σ₂=some (fl,ρ',σ')→P)→P;refine codeAny_forLoop_any J ?_ src.items.length fun K=>K 0 src.items ρ σ₁ ι rfl rfl (Nat.zero_le _) S.ext.weak (F₁.ext' S.rel0 S.ext) S.st (S.wrOut R fun a ha=>.inl ha) e;intro n s₂ hI;refine hI fun i rest ρ₁ σ₂ ι₂ hn hd hi X G st hw hl=>?_;subst hn;have after:∀{h':Heap} {tk:Nat},(∀b o,b∉wr→s₂.heap.get? b=some o→h'.get? b=some o)→Gs (prog:=prog) (w:=w) (own env) B' ι s σ₂ ι₂ {s₂ with heap:=h',toks:=tk}∧FrR B' ι₂ h' ρ₁ env:=fun hk=>
  ⟨X.wide (fun b hb=>(S.fresh b hb).1) S.wrB hw (It.notup i _ st) hk,G.wide (fun b hb o e=>hk b o (fun h=>hwo b h hb) e) fun a vs n e=>hk a _ (fun hb=>It.notup i _ st a hb vs n e) e⟩
 cases rest with
 |nil=>
  refine zA2 (if_some hl) fun hok hr=>?_;revert h;refine pr3 (Option.some.inj hr) fun h=>?_;exact It.done s₂ _ _ (drop_nil hi hd▸st) fun h' tk hk=>zA2 (after (tk:=tk) hk) fun X' G'=>Qu (h _ _ _ (lower X' hok) (G'.lower S.le) .next)
 |cons x xs=>
  refine cps fun qG qK=>?_;refine zA3 (drop_cons hd) fun hx hd' hil=>zA2 (lF_cons hl) fun hok hl=>z12 hl fun ρ₂ hbind hl=>z32 hl fun f₁ ρ₃ σ₃ hex hl=>?_;refine qK ?_;refine wpAny_mono (It.item i x s₂ (fun v s₃=>wpAny (model prog w) A (assign target env v) (fun _ s₂=>wpAny (model prog w) A (execs body env) (fun f s₃=>match f with
   |.next|.cont=>∃m,m<(x::xs).length∧J m s₃
   |.brk=>Q .next s₃
   |.ret v=>Q (.ret v) s₃) (notedBy (model prog w) A env fun e s'=>cameBackBy (model prog w) A env E e s') s₂) (notedBy (model prog w) A env fun e s'=>cameBackBy (model prog w) A env E e s') s₃) _ target hmany hx st fun v h' tk rv st' hk=>?_) (fun r s₃ hr=>z12 hr fun v e hr2=>by subst e;exact hr2) fun _ _ e=>e
  refine zA2 (after (tk:=tk) hk) fun X' G'=>assign_snd (s:={s₂ with heap:=h',toks:=tk}) hh hm hc X'.rel G' (rv.mono (fun _ _ _ e=>e) X.pre) hbind fun s₄ Y F₄=>hb ι₂ σ₂ s₄ ρ₂ _ _ _ _ _ Y.rel F₄ hex fun ι₅ s₅ f Z F₅ hf=>?_;have YZ:=Y.trans Z;refine hl.elim (fun hr=>z13 hr fun v' ev hok' hr2=>?_) fun hr=>?_
  ·subst ev;revert h;refine pr3 hr2 fun h=>?_;cases hf with
   |ret ru=>exact h _ _ _ (lower (X'.trans YZ) hok') (F₅.lower S.le) (.ret ru)
  ·have main:∃m,m<(x::xs).length∧J m s₅:=zA2 (S.frame It X' YZ st' G'.tups F₁.tups hw hwo) fun f1 f2=>⟨xs.length,Nat.lt_succ_self _,fun K=>K (i+1) xs ρ₃ σ₃ ι₅ rfl hd' hil (X'.trans YZ) F₅ f1 f2 hr.2⟩
   cases hf with
   |next|cont=>exact main
   |ret ru=>exact absurd rfl (hr.1 _)
noncomputable def clOf(env:Env):List (Str×NameKind)→List (Str×Addr)→List (Str×Addr)
 |[],cs=>cs
 |(n,k)::r,cs=>clOf env r (if k== .free then match env.cells.lookup n with
  |some c=>(n,c)::cs
  |none=>cs else cs)
theorem clOf_mem{env:Env}:∀{names:List (Str×NameKind)} {cs:List (Str×Addr)} {n:Str} {c:Addr},(n,c)∈clOf env names cs→(n,c)∈cs∨((n,NameKind.free)∈names∧env.cells.lookup n=some c)
 |[],cs,n,c,h=>.inl h
 |(m,k)::r,cs,n,c,h=>by
  simp only[clOf]at h;rcases clOf_mem h with h|⟨h1,h2⟩
  ·split at h
   ·rename_i hk;split at h
    ·rename_i c' hc;rcases Q5 h with h|h
     ·cases h;exact .inr ⟨by rw[beq_iff_eq.mp hk];exact .head _,hc⟩
     ·exact .inl h
    ·exact .inl h
   ·exact .inl h
  ·exact .inr ⟨.tail _ h1,h2⟩
theorem clOf_keep{env:Env}:∀{names:List (Str×NameKind)} {cs:List (Str×Addr)} {x:Str×Addr},x∈cs→x∈clOf env names cs
 |[],_,_,h=>h
 |(m,k)::r,cs,x,h=>by
  simp only[clOf];refine clOf_keep ?_;split
  ·split
   ·exact .tail _ h
   ·exact h
  ·exact h
theorem clOf_has{env:Env}:∀{names:List (Str×NameKind)} {cs:List (Str×Addr)} {n:Str} {c:Addr},(n,NameKind.free)∈names→env.cells.lookup n=some c→(n,c)∈clOf env names cs
 |(m,k)::r,cs,n,c,h,hc=>by
  simp only[clOf];rcases Q5 h with h|h
  ·cases h;refine clOf_keep ?_;simp[hc]
  ·exact clOf_has h hc
theorem clOf_apart{env:Env}(ha:env.cells.Pairwise fun x y=>x.2≠y.2):∀{names:List (Str×NameKind)} {cs:List (Str×Addr)},(names.map (·.1)).Nodup→(∀x∈cs,x∈env.cells∧x.1∉names.map (·.1))→(cs.Pairwise fun x y=>x.2≠y.2)→(clOf env names cs).Pairwise fun x y=>x.2≠y.2
 |[],cs,_,_,h=>h
 |(m,k)::r,cs,hn,hm,h=>by
  simp only[Q7,List.nodup_cons]at hn;simp only[clOf];have hm':∀x∈cs,x∈env.cells∧x.1∉r.map (·.1):=fun x hx=>⟨(hm x hx).1,fun h=>(hm x hx).2 (.tail _ h)⟩
  split
  ·split
   ·rename_i c hc;refine clOf_apart ha hn.2 (fun x hx=>?_) ?_
    ·rcases Q5 hx with rfl|hx
     ·exact⟨mem_of_lookup hc,hn.1⟩
     ·exact hm' x hx
    ·refine List.pairwise_cons.mpr ⟨fun x hx he=>?_,h⟩;have h1:=mem_of_lookup hc;refine zA2 (hm x hx) fun h2 h3=>?_;have he:c=x.2:=he;have:m=x.1:=name_of_addr ha h1 (by rw[he];exact h2);exact h3 (by rw[←this];exact .head _)
   ·exact clOf_apart ha hn.2 hm' h
  ·exact clOf_apart ha hn.2 hm' h
theorem Jw{scope:Scope}{env:Env}(h:∀n,(n,NameKind.free)∈scope.names→∃c,env.cells.lookup n=some c):closureFor scope env=pure (clOf env scope.names []):=by
 unfold closureFor;have key:∀(names:List (Str×NameKind)) (cs:List (Str×Addr)),(∀n,(n,NameKind.free)∈names→∃c,env.cells.lookup n=some c)→
  (do
   let mut cs:=cs
   for (name,kind)in names do
    if kind== .free then cs:=(name,←cellOf env name)::cs
   return cs:Sem (List (Str×Addr)))=pure (clOf env names cs):=by
  intro names;induction names with
  |nil=>intro cs _;rfl
  |cons x r ih=>
   obtain⟨n,k⟩:=x;intro cs hf;have hr:∀n,(n,NameKind.free)∈r→∃c,env.cells.lookup n=some c:=fun n hn=>hf n (.tail _ hn);simp only[List.forIn_cons,clOf];by_cases hk:(k==NameKind.free)=true
   ·obtain⟨c,hc⟩:=hf n (by rw[beq_iff_eq.mp hk];exact .head _);rw[if_pos hk,if_pos hk,hc];have hcell:cellOf env n=pure c:=by unfold cellOf;rw[hc]
    rw[hcell];have:=ih ((n,c)::cs) hr;simpa using this
   ·rw[if_neg hk,if_neg hk];have:=ih cs hr;simpa using this
 exact key scope.names [] h
structure Yh(env:Env)(scope:Scope)(xs:List Nat):Prop where
 kind:scope.kind=.function
 nodup:(scope.names.map (·.1)).Nodup
 nocell:∀x∈scope.names,x.2≠.cell
 loc:∀n,(n,NameKind.local)∈scope.names→n∈xs.map nm∨∀x,x<56→nm x≠n
 free:∀n,(n,NameKind.free)∈scope.names→env.kindOf n=some .cell∧(env.cells.lookup n).isSome=true
 tgt:∀x∈xs,x<56∧scope.names.lookup (nm x)=some .local
theorem lookup_nodup{β:Type}:∀{l:List (Str×β)} {x:Str×β},(l.map (·.1)).Nodup→x∈l→l.lookup x.1=some x.2
 |y::r,x,hn,h=>by
  simp only[Q7,List.nodup_cons]at hn;rw[List.lookup_cons];rcases Q5 h with rfl|h
  ·simp
  ·have:x.1≠y.1:=fun e=>hn.1 (by rw[←e];exact Qj h);rw[show(x.1==y.1)=false by simpa using this];exact lookup_nodup hn.2 h
noncomputable def Gc(scope:Scope)(env:Env)(C:Addr):Env:=compEnvC scope (clOf env scope.names []) C env
theorem Ul{scope:Scope}{env:Env}{C:Addr}{n:Str}{kd:NameKind}(h:(Gc scope env C).kindOf n=some kd):∃k0,(n,k0)∈scope.names∧(kd=k0∨(k0=.free∧kd=.cell)):=by
 have h:(relabel scope env).names.lookup n=some kd:=h;have:=mem_of_lookup h;unfold relabel at this;obtain⟨⟨m,k0⟩,hm,he⟩:=Qg this;dsimp only at he;split at he
 ·rename_i hc;rw[Qc,Qc]at hc;exact pr2 (P:=fun n kd=>∃k0,(n,k0)∈scope.names∧(kd=k0∨(k0=.free∧kd=.cell))) he ⟨k0,hm,.inr ⟨eq_of_beq hc.1.1,rfl⟩⟩
 ·exact pr2 (P:=fun n kd=>∃k0,(n,k0)∈scope.names∧(kd=k0∨(k0=.free∧kd=.cell))) he ⟨_,hm,.inl rfl⟩
theorem lookup_of_apart{cs:List (Str×Addr)}{n:Str}{c:Addr}(hm:(n,c)∈cs)(hu:∀d,(n,d)∈cs→d=c):cs.lookup n=some c:=by
 induction cs with
 |nil=>cases hm
 |cons x r ih=>
  obtain⟨m,d⟩:=x;rw[List.lookup_cons];cases hmn:n==m with
  |true=>
   have:n=m:=by simpa using hmn
   subst this;simp only;rw[hu d (.head _)]
  |false=>
   simp only;rcases Q5 hm with h|h
   ·cases h;simp at hmn
   ·exact ih h fun d hd=>hu d (.tail _ hd)
theorem drp_inv{ρ:Fr}{xs:List Nat}{x:Nat}{v:V}(e:drp ρ xs x=some v):x∉xs∧ρ x=some v:=(Decidable.em (x∈xs)).elim (fun h=>nomatch (if_pos h).symm.trans e) fun h=>⟨h,(if_neg h).symm.trans e⟩
theorem FrR.comp{h h':Heap}{ρ:Fr}{env:Env}{scope:Scope}{xs:List Nat}{C:Addr}(F:FrR B ι h ρ env)(R:Rel prog w B σ ι h)(ok:Yh env scope xs)(hC:h.get? C=none)(hk:∀b o,h.get? b=some o→h'.get? b=some o)(hn:h'.Ns C fun _=>none):
 FrR B ι h' (drp ρ xs) (Gc scope env C)where
 ok:={kind:=ok.kind,glob:=F.ok.glob,blt:=F.ok.blt}
 rng:=fun x v e=>F.rng x v (drp_inv e).2
 ns:=⟨_,hn,fun x v e hl=>by
  obtain⟨k0,hm,hk0|⟨_,hk0⟩⟩:=Ul hl
  ·subst hk0;have d:=drp_inv e;exact z12 (Qg ((ok.loc _ hm).resolve_right fun h=>h x (F.rng x v d.2) rfl)) fun y hy he=>absurd (nm_inj y x (ok.tgt y hy).1 (F.rng x v d.2) he▸hy) d.1
  ·cases hk0⟩
 cl:=fun x v e hl=>by
  have hm:(nm x,NameKind.free)∈scope.names:=by
   rcases hl with hl|hl
   ·obtain⟨k0,hm,hk0|⟨hk1,_⟩⟩:=Ul hl
    ·subst hk0;exact absurd rfl (ok.nocell _ hm)
    ·subst hk1;exact hm
   ·obtain⟨k0,hm,hk0|⟨hk1,hk2⟩⟩:=Ul hl
    ·subst hk0;exact hm
    ·cases hk2
  have e':ρ x=some v:=(drp_inv e).2;refine z23 (F.cl x v e' (.inl (ok.free _ hm).1)) fun c u h1 h2 h3=>?_;refine⟨c,u,?_,?_,h3.mono (fun _ _ _ e=>hk _ _ e) (Q3 _)⟩
  ·refine lookup_of_apart (clOf_has hm h1) fun d hd=>?_;rcases clOf_mem hd with h|⟨_,h⟩
   ·cases h
   ·rw[h1]at h;exact(Option.some.inj h).symm
  ·obtain⟨o,ho,hd⟩:=h2;exact⟨o,hk _ _ ho,hd⟩
 cells:=fun n c hm=>by
  rcases clOf_mem hm with h|⟨_,h⟩
  ·cases h
  ·refine cps fun qG qK=>?_;obtain⟨⟨v,o,ho,hd⟩,h2,h3,h4⟩:=F.cells n c (mem_of_lookup h);refine qK ?_;refine⟨⟨v,o,hk _ _ ho,hd⟩,h2,fun hc=>?_,h4⟩;have hc:c=C:=hc;rw[hc,hC]at ho;cases ho
 apart:=clOf_apart F.apart ok.nodup (fun _ h=>by cases h) List.Pairwise.nil
 locOut:=fun hi=>by
  refine z11 (R.live hi) fun o ho=>?_;have ho:h.get? C=some o:=ho;rw[hC]at ho;cases ho
 locNew:=by
  show B.get? C=none;cases e:B.get? C with
  |none=>rfl
  |some o=>have:=R.base _ _ e;rw[hC]at this;cases this
theorem locals_tups{ρ:Fr}{env:Env}(F:FrR B ι s.heap ρ env):∀a vs n,s.heap.get? a=some (G4 vs n)→¬a=env.locals:=fun a vs n e h=>F.tups a vs n e (.inl h)
theorem FrR.less{h:Heap}{ρ ρ₀:Fr}{env:Env}(G:FrR B ι h ρ env)(hs:∀x v,ρ₀ x=some v→ρ x=some v):FrR B ι h ρ₀ env where
 ok:=G.ok
 rng:=fun x v e=>G.rng x v (hs x v e)
 ns:=let⟨m,hn,q⟩:=G.ns;⟨m,hn,fun x v e=>q x v (hs x v e)⟩
 cl:=fun x v e=>G.cl x v (hs x v e)
 cells:=G.cells
 apart:=G.apart
 locOut:=G.locOut
 locNew:=G.locNew
theorem walk_code{c:Code}{it:Value}{target:PySem.Expr}{env:Env}{p:Pos}{turnK:Value→Sem Fin}{R:Result→Shared→Prop}(hq:c.quiet=true)(hin:A.under c=A)
 (hden:(model prog w).den c=(standAt p >>= fun _=>pyNext it >>= fun r=>match r with
  |none=>pure (.done .next)
  |some v=>letOwnedTupleGo target it v >>= fun _=>turnK v).onRaise (fun x=>do noteFrame x env;theTreesLotGoes x))
 (I:Nat→Shared→Prop)
 (turn:∀n s,I n s→∀E:Value→Shared→Prop,wpAny (model prog w) A (pyNext it) (fun r s₁=>match r with
  |none=>R (.ok .next) s₁
  |some v=>wpAny (model prog w) A (letOwnedTupleGo target it v) (fun _ s₂=>wpAny (model prog w) A (turnK v) (fun fin s₃=>fin=.again c∧∃m,m<n∧I m s₃) E s₂) E s₁) E s)
 (n:Nat) (h:I n s):codeAny (model prog w) A c R s:=by
 refine codeAny_loop hq I (fun n s hI=>?_) n h;rw[hden,hin];refine wpAny_noted ?_;refine Qt (wpAny_standAt (Qt (wpAny_mono (turn n s hI _) (fun r s₁ h₁=>?_) fun _ _ h'=>h')));cases r with
 |none=>exact Qu h₁
 |some v=>
  refine Qt (wpAny_mono h₁ (fun _ s₂ h₂=>wpAny_mono h₂ (fun fin s₃ h₃=>?_) fun _ _ h'=>h') fun _ _ h'=>h');obtain⟨rfl,h₃⟩:=h₃;exact⟨rfl,h₃⟩
theorem lA_inv{α:Type}{src:Src}{turn:V→α→Sto→Option (α×Sto)}{x:V}{xs:List V}{a:α}{r:α×Sto}(e:J3 src turn (x::xs) a σ=some r):∃a₂ σ₂,src.ok σ=true∧turn x a σ=some (a₂,σ₂)∧J3 src turn xs a₂ σ₂=some r:=by
 refine zA2 (if_some e) fun hok e=>?_;cases ht:turn x a σ with
 |none=>rw[ht]at e;exact nomatch e
 |some q=>rw[ht]at e;exact⟨q.1,q.2,hok,rfl,e⟩
theorem walkA{α:Type}{B':Bas}{src:Src}{many:Bool}{σ₁:Sto}{I:Addr}{s₀ s₁:Shared}{fp wr V:List Addr}{St:Nat→Heap→Prop}{c:Code}{target:PySem.Expr}{env:Env}{p:Pos}{turnK:Value→Sem Fin}{R:Result→Shared→Prop}{ρ₀:Fr}
 {turnC:TK.V→α→Sto→Option (α×Sto)} {a₀ a':α} {σ':Sto} (Acc:α→List Addr→Heap→Prop)
 (hh:A.handled=none) (hq:c.quiet=true) (hin:A.under c=A)
 (hden:(model prog w).den c=(standAt p >>= fun _=>pyNext (.ref I) >>= fun r=>match r with
  |none=>pure (.done .next)
  |some v=>letOwnedTupleGo target (.ref I) v >>= fun _=>turnK v).onRaise (fun x=>do noteFrame x env;theTreesLotGoes x))
 (S:Jv prog w B B' ι s src many σ₁ I s₀ fp wr St) (Rl:Rel prog w B σ ι s.heap) (hmany:many=true→Z6 target=true)
 (hV:∀b∈wr,b∉V) (hwo:∀b∈wr,¬own env b)
 (hstab:∀a ι h h',Acc a ι h→(∀b∈V,∀o,h.get? b=some o→h'.get? b=some o)→(∀a vs n,h.get? a=some (G4 vs n)→h'.get? a=some (G4 vs n))→Acc a ι h')
 (hlv:∀a ι h,Acc a ι h→FrR B' ι h ρ₀ env→∀b∈V,∃o,h.get? b=some o∧∀vs n,o≠G4 vs n) (hV0:∀b∈V,b∉ι) (htv:∀b∈V,∀vs n,s.heap.get? b≠some (G4 vs n))
 (turn:∀x a σ₂ a₂ σ₃,turnC x a σ₂=some (a₂,σ₃)→∀ι₂ s₂ u (E:Value→Shared→Prop) (Q:Unit→Shared→Prop),ι<+:ι₂→(∀b∈V,b∉ι₂)→Rel prog w B' σ₂ ι₂ s₂.heap→FrR B' ι₂ s₂.heap ρ₀ env→Acc a ι₂ s₂.heap→VR s₂.heap ι₂ x u→
  (∀ι₃ s₃,Gs (prog:=prog) (w:=w) (fun a=>a∈V) B' ι₂ s₂ σ₃ ι₃ s₃→FrR B' ι₃ s₃.heap ρ₀ env→Acc a₂ ι₃ s₃.heap→Q () s₃)→wpAny (model prog w) A (turnK u) (fun fin s₃=>fin=.again c∧Q () s₃) E s₂)
 (X₀:Gs (prog:=prog) (w:=w) (fun a=>a∈V) B' ι s σ₁ ι s₁) (G₀:FrR B' ι s₁.heap ρ₀ env) (st₀:St 0 s₁.heap) (acc₀:Acc a₀ ι s₁.heap)
 (e:J3 src turnC src.items a₀ σ₁=some (a',σ'))
 (hR:∀σ₂ ι' s',Gs (prog:=prog) (w:=w) (fun a=>a∈V) B' ι s σ₂ ι' s'→src.ok σ₂=true→σ'=src.free σ₂→FrR B' ι' s'.heap ρ₀ env→Acc a' ι' s'.heap→R (.ok .next) s'):
 codeAny (model prog w) A c R s₁:=by
 have It:=S.it A hh;have hnV:∀{a:α} {ι₂:List Addr} {h:Heap},Acc a ι₂ h→FrR B' ι₂ h ρ₀ env→∀b vs n,h.get? b=some (G4 vs n)→¬b∈V:=fun ha G b vs n e hb=>z12 (hlv _ _ _ ha G b hb) fun o h1 h2=>h2 vs n (Option.some.inj (h1.symm.trans e));let J:Nat→Shared→Prop:=fun n s'=>∀{P:Prop},(∀i rest a σ₂ ι₂,rest.length=n→src.items.drop i=rest→i≤src.items.length→Gs (prog:=prog) (w:=w) (fun a=>a∈V) B' ι s σ₂ ι₂ s'→FrR B' ι₂ s'.heap ρ₀ env→St i s'.heap→(∀b∈wr,b∉ι₂)→(∀b∈V,b∉ι₂)→Acc a ι₂ s'.heap→J3 src turnC rest a σ₂=some (a',σ')→P)→P;refine walk_code hq hin hden J ?_ src.items.length fun K=>K 0 src.items a₀ σ₁ ι rfl rfl (Nat.zero_le _) X₀ G₀ st₀ (S.wrOut Rl fun a ha=>.inl ha) hV0 acc₀ e;intro n s₂ hI E;refine hI fun i rest a σ₂ ι₂ hn hd hi X G st hw hv ha hl=>?_;subst hn;have after:∀{h':Heap} {tk:Nat},(∀b o,b∉wr→s₂.heap.get? b=some o→h'.get? b=some o)→Gs (prog:=prog) (w:=w) (fun a=>a∈V) B' ι s σ₂ ι₂ {s₂ with heap:=h',toks:=tk}∧FrR B' ι₂ h' ρ₀ env∧Acc a ι₂ h':=fun hk=>
  have hkt:∀a vs n,s₂.heap.get? a=some (G4 vs n)→_:=fun a vs n e=>hk a _ (fun hb=>It.notup i _ st a hb vs n e) e
  ⟨X.wide (fun b hb=>(S.fresh b hb).1) S.wrB hw (It.notup i _ st) hk,G.wide (fun b hb o e=>hk b o (fun h=>hwo b h hb) e) hkt,hstab _ _ _ _ ha (fun b hb o e=>hk b o (fun h=>hV b h hb) e) hkt⟩
 cases rest with
 |nil=>
  refine zA2 (if_some hl) fun hok hr=>?_;revert hR;refine pr2 (Option.some.inj hr) fun hR=>?_;exact It.done s₂ _ _ (drop_nil hi hd▸st) fun h' tk hk=>zA3 (after (tk:=tk) hk) fun X' G' ha'=>hR _ _ _ X' hok rfl G' ha'
 |cons x xs=>
  refine cps fun qG qK=>?_;refine zA3 (drop_cons hd) fun hx hd' hil=>z23 (lA_inv hl) fun a₂ σ₃ hok hturn hl=>?_;refine qK ?_;refine wpAny_mono (It.item i x s₂ (fun v s₃=>wpAny (model prog w) A (turnK v) (fun fin s₃=>fin=.again c∧∃m,m<(x::xs).length∧J m s₃) E s₃) E target hmany hx st fun v h' tk rv st' hk=>?_) (fun r s₃ hr=>z12 hr fun v e hr2=>by subst e;exact hr2) fun _ _ e=>e;refine zA3 (after (tk:=tk) hk) fun X' G' ha'=>turn x a σ₂ a₂ σ₃ hturn ι₂ {s₂ with heap:=h',toks:=tk} v E (fun _ s₃=>∃m,m<(x::xs).length∧J m s₃) X.pre hv X'.rel G' ha' (rv.mono (fun _ _ _ e=>e) X.pre) fun ι₅ s₅ Z G₅ ha₅=>?_;refine zA2 (S.frame It X' Z st' (hnV ha' G') (fun b vs n e hb=>htv b hb vs n e) hw hV) fun f1 f2=>⟨xs.length,Nat.lt_succ_self _,fun K=>K (i+1) xs a₂ σ₃ ι₅ rfl hd' hil (X'.trans Z) G₅ f1 f2 (fun b hb hbi=>(Z.fresh b hbi).elim (hv b hb) fun h1=>z12 (hlv _ _ _ ha' G' b hb) fun _ e _=>J0 h1 e) ha₅ hl⟩
structure AccD{α:Type}(D:Addr)(P:α→List Addr→Heap→Prop):Prop where
 stay:∀{a ι ι' h h'},P a ι h→(∀o,h.get? D=some o→h'.get? D=some o)→(∀a vs n,h.get? a=some (G4 vs n)→h'.get? a=some (G4 vs n))→ι<+:ι'→P a ι' h'
 nt:∀{a ι h},P a ι h→Nt h D
theorem in_pair{α:Type}{P:α→Prop}{a b:α}(h1:P a)(h2:P b):∀x∈[a,b],P x:=fun _ hx=>(Q5 hx).elim (fun e=>e▸h1) fun hx=>Q2 hx▸h2
theorem dTouch{C D:Addr}{env:Env}{ρ:Fr}{h':Heap}{t:Nat}(R:Rel prog w B σ ι s.heap)(G:FrR B ι s.heap ρ env)(hDi:D∉ι)(hBD:B.get? D=none)(hno:¬own env D)(hnt:Nt s.heap D)(hs:Heap.SameBut D s.heap h')(hl:∃o,h'.get? D=some o):
 Gs (prog:=prog) (w:=w) (fun a=>a∈[C,D]) B ι s σ ι {s with heap:=h',toks:=t}∧FrR B ι h' ρ env∧∀a vs n,s.heap.get? a=some (G4 vs n)→h'.get? a=some (G4 vs n):=
 have ne:∀vs n,s.heap.get? D≠some (G4 vs n):=fun _ _ e=>hnt.ne e;have hkt:∀a vs n,s.heap.get? a=some (G4 vs n)→h'.get? a=some (G4 vs n):=fun a us m e=>(hs.2 a fun hh=>ne us m (hh▸e)).trans e
 ⟨{
  same:=⟨_,_,rfl⟩,pre:=Q3 _,fresh:=fun b hb=>.inl hb
  live:=fun b o e=>(Decidable.em (b=D)).elim (fun h=>h▸hl) fun h=>⟨o,(hs.2 b h).trans e⟩
  keep:=fun b o e _ hn=>(hs.2 b fun hb=>hn (hb▸ .tail _ (.head _))).trans e,rel:=R.sameBut hDi hBD ne hs},G.wide (fun b hb o e=>(hs.2 b fun h=>hno (h▸hb)).trans e) hkt,hkt⟩
theorem walkD{α:Type}{B':Bas}{src:Src}{many:Bool}{σ₁:Sto}{I C D:Addr}{s₀ s₁:Shared}{fp wr:List Addr}{St:Nat→Heap→Prop}{c:Code}{t:Tg}{target:PySem.Expr}{env:Env}{p:Pos}{turnK:Value→Sem Fin}{rest:Sem Fin}{R:Result→Shared→Prop}{ρ₀:Fr}
 {turnC:TK.V→α→Sto→Option (α×Sto)} {a₀ a':α} {σ':Sto} {P:α→List Addr→Heap→Prop} (PD:AccD D P)
 (hh:A.handled=none) (hq:c.quiet=true) (hin:A.under c=A)
 (hden:(model prog w).den c=(standAt p >>= fun _=>pyNext (.ref I) >>= fun r=>match r with
  |none=>pure (.done .next)
  |some v=>letOwnedTupleGo target (.ref I) v >>= fun _=>turnK v).onRaise (fun x=>do noteFrame x env;theTreesLotGoes x))
 (hK:∀u,turnK u=(assign target env u >>= fun _=>rest))
 (S:Jv prog w B B' ι s src many σ₁ I s₀ fp wr St) (Rl:Rel prog w B σ ι s.heap) (hmany:many=true→Z6 target=true) (hm:mTg t target=true) (htg:∀x∈t.vars,x<56∧env.kindOf (nm x)=some .local)
 (hloc:env.locals=C) (hwo:∀b∈wr,¬own env b) (hwD:D∉wr) (hCD:C≠D) (hCi:C∉ι) (hDi:D∉ι) (hCt:∀vs n,s.heap.get? C≠some (G4 vs n)) (hDt:∀vs n,s.heap.get? D≠some (G4 vs n))
 (turn:∀x a σ₂ a₂ σ₃,turnC x a σ₂=some (a₂,σ₃)→∃ρ',Uk t x ρ₀=some ρ'∧(∀y v,ρ₀ y=some v→ρ' y=some v)∧∀ι₂ s₂ (E:Value→Shared→Prop) (Q:Unit→Shared→Prop),Rel prog w B' σ₂ ι₂ s₂.heap→FrR B' ι₂ s₂.heap ρ' env→D∉ι₂→P a ι₂ s₂.heap→
  (∀ι₃ s₃,Gs (prog:=prog) (w:=w) (fun a=>a∈[C,D]) B' ι₂ s₂ σ₃ ι₃ s₃→FrR B' ι₃ s₃.heap ρ' env→P a₂ ι₃ s₃.heap→D∉ι₃→Q () s₃)→wpAny (model prog w) A rest (fun fin s₃=>fin=.again c∧Q () s₃) E s₂)
 (X₀:Gs (prog:=prog) (w:=w) (fun a=>a∈[C,D]) B' ι s σ₁ ι s₁) (G₀:FrR B' ι s₁.heap ρ₀ env) (st₀:St 0 s₁.heap) (acc₀:P a₀ ι s₁.heap)
 (e:J3 src turnC src.items a₀ σ₁=some (a',σ'))
 (hR:∀σ₂ ι' s',Gs (prog:=prog) (w:=w) (fun a=>a∈[C,D]) B' ι s σ₂ ι' s'→src.ok σ₂=true→σ'=src.free σ₂→FrR B' ι' s'.heap ρ₀ env→P a' ι' s'.heap→D∉ι'→R (.ok .next) s'):
 codeAny (model prog w) A c R s₁:=by
 refine walkA (V:=[C,D]) (fun a ι₂ h=>P a ι₂ h∧D∉ι₂) hh hq hin hden S Rl hmany ?_ hwo ?_ ?_ (in_pair hCi hDi) (in_pair hCt hDt) ?_ X₀ G₀ st₀ ⟨acc₀,hDi⟩ e fun σ₂ ι' s' X hok hf G ha=>hR σ₂ ι' s' X hok hf G ha.1 ha.2
 ·exact fun b hb hbV=>(Q5 hbV).elim (fun e=>hwo b hb (.inl (e.trans hloc.symm))) fun h=>hwD (Q2 h▸hb)
 ·exact fun a ι h h' ha hk hkt=>⟨PD.stay ha.1 (hk D (.tail _ (.head _))) hkt (Q3 _),ha.2⟩
 ·exact fun a ι h ha G=>in_pair (hloc▸G.ownNt (.inl rfl)) (PD.nt ha.1)
 ·intro x a σ₂ a₂ σ₃ hturn ι₂ s₂ u E Q hp hv R₂ G ha ru h;refine z13 (turn x a σ₂ a₂ σ₃ hturn) fun ρ' hbind hless K=>?_;rw[hK];refine Qt (assign_sndL hh hm htg R₂ G ru hbind fun s₃ X₃ G₃=>?_);have hD₃:∀o,s₂.heap.get? D=some o→s₃.heap.get? D=some o:=fun o e=>X₃.keep D o e ha.2 fun h=>hCD (hloc.symm.trans h.symm);exact K ι₂ s₃ E Q X₃.rel G₃ ha.2 (PD.stay ha.1 hD₃ (X₃.tups R₂ (locals_tups G)) (Q3 _)) fun ι₃ s₄ X₄ G₄ p hi=>h ι₃ s₄ ((X₃.forget fun a o h _=>by rw[h,hloc];exact .head _:Gs (prog:=prog) (w:=w) (fun a=>a∈[C,D]) B' ι₂ s₂ σ₂ ι₂ s₃).trans X₄) (G₄.less hless) ⟨p,hi⟩
noncomputable def G5(prog:Program)(w:World)(A:Around)(B:Bas)(env:Env)(ev:Fr→Sto→Option (V×Sto))(t:Sem Value):Prop:=
 ∀(ι:List Addr) (σ:Sto) (s:Shared) (ρ:Fr) (v:V) (σ':Sto) (Q:Value→Shared→Prop) (E:Value→Shared→Prop),Rel prog w B σ ι s.heap→FrR B ι s.heap ρ env→ev ρ σ=some (v,σ')→Jp prog w B ι s v σ' Q→wpAny (model prog w) A t Q E s
noncomputable def Y4(prog:Program)(w:World)(A:Around)(B:Bas)(env:Env)(ev:Fr→Sto→Option (Bool×Sto))(t:Sem Bool):Prop:=
 ∀(ι:List Addr) (σ:Sto) (s:Shared) (ρ:Fr) (b:Bool) (σ':Sto) (Q:Bool→Shared→Prop) (E:Value→Shared→Prop),Rel prog w B σ ι s.heap→FrR B ι s.heap ρ env→ev ρ σ=some (b,σ')→(∀ι' s',Ext (prog:=prog) (w:=w) B ι s σ' ι' s'→Q b s')→wpAny (model prog w) A t Q E s
noncomputable def tests(ifs:List PySem.Expr)(env:Env):Sem Bool:=
 forIn ifs true fun c r=>if r=true then do let ok ←isTrue c env (eval c env);pure (ForInStep.yield ok)else pure (ForInStep.yield r)
theorem comp_fin{B':Bas}{src:Src}{many:Bool}{σ₁ σ₂:Sto}{I:Addr}{s₀ s':Shared}{fp wr:List Addr}{St:Nat→Heap→Prop}{C D:Addr}{ι':List Addr}{h':Heap}{o:Ob}
 (S:Jv prog w B B' ι s src many σ₁ I s₀ fp wr St) (R:Rel prog w B σ ι s.heap) (X:Gs (prog:=prog) (w:=w) (fun a=>a∈[C,D]) B' ι s σ₂ ι' s') (hok:src.ok σ₂=true) (hC:s.heap.get? C=none) (hD:s.heap.get? D=none)
 (hCi:C∉ι') (hDi:D∉ι') (hCt:∀vs n,s'.heap.get? C≠some (G4 vs n)) (hs:Heap.SameBut C s'.heap h') (ho:ObR prog w h' (ι'++[D]) D o) (hl:∃x,h'.get? D=some x):
 Ext (prog:=prog) (w:=w) B ι s (src.free σ₂++[o]) (ι'++[D]) {s' with heap:=h'}:=by
 have hne:∀a o,s.heap.get? a=some o→a≠C∧a≠D:=fun a o e=>⟨fun h=>J0 hC (h▸e),fun h=>J0 hD (h▸e)⟩
 exact
  {
   same:=z21 X.same fun _ _ e=>⟨h',s'.toks,by rw[e]⟩
   pre:=X.pre.trans ⟨[D],rfl⟩
   fresh:=fun a ha=>(Qh ha).elim (X.fresh a) fun ha=>.inr (Q2 ha▸hD)
   live:=fun a o e=>z11 (X.live a o e) fun o' e'=>⟨o',(hs.2 a (hne a o e).1).trans e'⟩
   keep:=fun a o e hn _=>(hs.2 a (hne a o e).1).trans (X.keep a o e hn fun hm=>(Q5 hm).elim (hne a o e).1 fun h=>(hne a o e).2 (Q2 h))
   rel:=((S.back _ _ _ X.rel X.pre hok).sameBut hCi (R.noB hC) hCt hs).adopt hDi (R.noB hD) (fun _ _ h=>h) ho}
noncomputable def lturn(t:Tg)(evc:Fr→Sto→Option (Bool×Sto))(ev:Fr→Sto→Option (V×Sto))(ρ:Fr)(x:V)(acc:List V)(σ:Sto):Option (List V×Sto):=
 (Uk t x (drp ρ t.vars)).bind fun ρ'=>(evc ρ' σ).bind fun c=>if c.1=true then(ev ρ' c.2).bind fun y=>if acc.length<lim then some (acc++[y.1],y.2)else none else some (acc,c.2)
theorem upds_out{y:Nat}:∀{xs:List Nat} {l:List V} {ρ₀ ρ':Fr},upds xs l ρ₀=some ρ'→y∉xs→ρ' y=ρ₀ y
 |[],[],_,_,e,_=>congrFun (Option.some.inj e).symm y
 |[],_::_,_,_,e,_|_::_,[],_,_,e,_=>nomatch e
 |x::xs,a::l,_,_,e,hy=>(upds_out (xs:=xs) (l:=l) e fun h=>hy (.tail _ h)).trans (if_neg fun h:y=x=>hy (h▸ .head _))
theorem drp_bind{t:Tg}{x:V}{ρ ρ':Fr}(e:Uk t x (drp ρ t.vars)=some ρ'):∀y v,drp ρ t.vars y=some v→ρ' y=some v:=by
 intro y v hv;have hy:y∉t.vars:=fun h=>nomatch (if_pos h).symm.trans hv;cases t with
 |one z=>exact Option.some.inj e▸(if_neg fun h:y=z=>hy (h▸ .head _)).trans hv
 |many xs=>
  cases x with
  |tup l=>exact(upds_out e hy).trans hv
  |_=>exact nomatch e
noncomputable def lP(D:Addr)(a:List V)(ι:List Addr)(h:Heap):Prop:=∃vs n,h.get? D=some (J1 vs n)∧VsR h ι a vs.toList
theorem Zd{D:Addr}:AccD D (lP D):=⟨fun hP hk hkt hp=>z22 hP fun vs n e q=>⟨vs,n,hk _ e,q.mono hkt hp⟩,fun hP=>z22 hP fun _ _ e _=>⟨_,e,fun _ _=>Yt⟩⟩
theorem ext_acc{α:Type}{D:Addr}{P:α→List Addr→Heap→Prop}(PD:AccD D P){a:α}{σ₂:Sto}{ι₂:List Addr}{s₂:Shared}(R:Rel prog w B σ ι s.heap)(hP:P a ι s.heap)(hDi:D∉ι)(Z:Ext (prog:=prog) (w:=w) B ι s σ₂ ι₂ s₂):P a ι₂ s₂.heap∧D∉ι₂:=
 ⟨PD.stay hP (fun o e=>Z.keep D o e hDi id) (Z.tups R fun _ _ _ _=>id) Z.pre,fun hi=>(Z.fresh D hi).elim hDi fun h1=>z11 (PD.nt hP).live fun _ e=>J0 h1 e⟩
theorem list_put{C D:Addr}{env:Env}{ρ:Fr}{a:List V}{y:V}{yv:Value}{Q:Value→Shared→Prop}(R:Rel prog w B σ ι s.heap)(G:FrR B ι s.heap ρ env)(hDi:D∉ι)(hBD:B.get? D=none)(hno:¬own env D)(hP:lP D a ι s.heap)(ry:VR s.heap ι y yv)(hlim:a.length<lim)
 (K:∀s',Gs (prog:=prog) (w:=w) (fun a=>a∈[C,D]) B ι s σ ι s'→FrR B ι s'.heap ρ env→lP D (a++[y]) ι s'.heap→Q Value.none s'):wpAny (model prog w) A (call (.builtin "list.append") [.ref D,yv]) Q E s:=by
 refine z22 hP fun vs n hD q=>?_;have hsz:vs.size≤sizeLine:=Nat.le_of_lt (Nat.lt_of_lt_of_le (J6 q▸hlim:vs.size<lim) (by decide));refine call_meets F.slot_list_append (T:= "list") ⟨_,hD,rfl⟩ F.entry_list_append (F.args_list_append_2 _ _) (PySem.list_append D vs n yv hsz) ⟨hD,?_⟩;have ho1:=get?_update_seq (c:= "list") hD fun x=>x.push yv;refine zA3 (dTouch (C:=C) (t:=s.toks) R G hDi hBD hno (Zd.nt hP) (Heap.SameBut.update s.heap D (Obj.mapSeq fun x=>x.push yv)) ⟨_,ho1⟩) fun X G' hkt=>?_;exact K _ X G' ⟨vs.push yv,_,ho1,by rw[Array.toList_push];exact(q.mono hkt (Q3 _)).append (.cons (ry.mono hkt (Q3 _)) .nil)⟩
theorem lcomp_loop{B':Bas}{src:Src}{many:Bool}{σ₁ σ':Sto}{I:Addr}{s₀ s₁:Shared}{fp wr:List Addr}{St:Nat→Heap→Prop}{t:Tg}{elt target iter:PySem.Expr}{ifs:List PySem.Expr}{scope:Scope}{pos:Pos}{env:Env}{C D:Addr}{ρ:Fr}{acc:List V}{R:Result→Shared→Prop}
 {evc:Fr→Sto→Option (Bool×Sto)} {ev:Fr→Sto→Option (V×Sto)}
 (hh:A.handled=none) (S:Jv prog w B B' ι s src many σ₁ I s₀ fp wr St) (Rl:Rel prog w B σ ι s.heap) (hm:mTg t target=true) (hmany:many=true→Z6 target=true) (ok:Yh env scope t.vars)
 (hc:Y4 prog w A B' (Gc scope env C) evc (tests ifs (Gc scope env C))) (he:G5 prog w A B' (Gc scope env C) ev (eval elt (Gc scope env C)))
 (hwo:∀b∈wr,¬own (Gc scope env C) b) (hwD:D∉wr) (hCD:C≠D) (hDo:∀n,(n,D)∉(Gc scope env C).cells) (hC:s.heap.get? C=none) (hD:s.heap.get? D=none) (hCi:C∉ι) (hDi:D∉ι)
 (X₀:Gs (prog:=prog) (w:=w) (fun a=>a∈[C,D]) B' ι s σ₁ ι s₁) (G₀:FrR B' ι s₁.heap (drp ρ t.vars) (Gc scope env C)) (st₀:St 0 s₁.heap) (acc₀:s₁.heap.get? D=some (J1 #[] 0))
 (e:J3 src (lturn t evc ev ρ) src.items [] σ₁=some (acc,σ'))
 (hR:∀σ₂ ι' s' vs n,Gs (prog:=prog) (w:=w) (fun a=>a∈[C,D]) B' ι s σ₂ ι' s'→src.ok σ₂=true→σ'=src.free σ₂→FrR B' ι' s'.heap (drp ρ t.vars) (Gc scope env C)→s'.heap.get? D=some (J1 vs n)→VsR s'.heap ι' acc vs.toList→D∉ι'→R (.ok .next) s'):
 codeAny (model prog w) A (.compLoop (.ListComp elt [⟨target,iter,ifs,0⟩] scope pos) 0 (.ref I) (.ref D) (Gc scope env C)) R s₁:=by
 have hno:¬own (Gc scope env C) D:=fun ho=>ho.elim (fun h=>hCD h.symm) fun h=>z11 h hDo;refine walkD (env:=Gc scope env C) (t:=t) Zd hh rfl rfl (by rfl) (fun _=>rfl) S Rl hmany hm (fun x hx=>⟨(ok.tgt x hx).1,lookup_relabel_local (env:=env) (ok.tgt x hx).2⟩) rfl hwo hwD hCD hCi hDi (fun _ _ e=>J0 hC e) (fun _ _ e=>J0 hD e) ?_ X₀ G₀ st₀ ⟨#[],0,acc₀,.nil⟩ e fun σ₂ ι' s' X hok hf G h hi=>z22 h fun vs n h1 h2=>hR σ₂ ι' s' vs n X hok hf G h1 h2 hi;intro x a σ₂ a₂ σ₃ hturn;refine bnE hturn fun ρ' hbind hturn=>bnP hturn fun cb σ₄ hcond hturn=>⟨ρ',hbind,drp_bind hbind,fun ι₂ s₂ E Q R₂ G₂ hDi₂ hP h=>?_⟩
 refine Qt (hc ι₂ σ₂ s₂ ρ' cb σ₄ _ _ R₂ G₂ hcond fun ι₄ s₄ Z₄=>?_);cases cb with
 |true=>
  refine bnP hturn fun y σ₅ helt hturn=>zA2 (Gz hturn) fun hlim hturn=>?_;revert h;refine pr2 (Option.some.inj hturn) fun h=>?_;refine Qt (Qt (he ι₄ σ₄ s₄ ρ' y _ _ _ Z₄.rel (G₂.ext' R₂ Z₄) helt fun ι₅ s₅ yv Z₅ ry=>?_));have Z:=Z₄.trans Z₅;refine zA2 (ext_acc Zd R₂ hP hDi₂ Z) fun hP₅ hDi₅=>?_;exact Qt (list_put (C:=C) Z.rel (G₂.ext' R₂ Z) hDi₅ (S.rel0.noB hD) hno hP₅ ry hlim fun s₆ W G₆ hP₆=>Qu (Qu ⟨rfl,h ι₅ s₆ (Z.weak.trans W) G₆ hP₆ hDi₅⟩))
 |false=>
  revert h;refine pr2 (Option.some.inj hturn) fun h=>?_;exact zA2 (ext_acc Zd R₂ hP hDi₂ Z₄) fun hP₄ hDi₄=>Qu ⟨rfl,h ι₄ s₄ Z₄.weak (G₂.ext' R₂ Z₄) hP₄ hDi₄⟩
theorem lcomp_core{B':Bas}{src:Src}{many:Bool}{σ₁ σ':Sto}{I:Addr}{s₀:Shared}{fp wr:List Addr}{St:Nat→Heap→Prop}{t:Tg}{elt target iter:PySem.Expr}{ifs:List PySem.Expr}{scope:Scope}{pos:Pos}{env:Env}{ρ:Fr}{acc:List V}
 {evc:Fr→Sto→Option (Bool×Sto)} {ev:Fr→Sto→Option (V×Sto)} {use:Option (Value→Sem Unit)} {Q:Value→Shared→Prop}
 (hh:A.handled=none) (S:Jv prog w B B' ι s src many σ₁ I s₀ fp wr St) (Rl:Rel prog w B σ ι s.heap) (F:FrR B ι s.heap ρ env) (hm:mTg t target=true) (hmany:many=true→Z6 target=true) (ok:Yh env scope t.vars)
 (hc:∀C,Y4 prog w A B' (Gc scope env C) evc (tests ifs (Gc scope env C))) (he:∀C,G5 prog w A B' (Gc scope env C) ev (eval elt (Gc scope env C)))
 (e:J3 src (lturn t evc ev ρ) src.items [] σ₁=some (acc,σ'))
 (hQ:∀ι' s' C D m,Ext (prog:=prog) (w:=w) B ι s (σ'++[.list acc]) (ι'++[D]) s'→VR s'.heap (ι'++[D]) (.loc σ'.length) (.ref D)→s'.heap.Ns C m→C∉ι'++[D]→s.heap.get? C=none→compPost (model prog w) A E use Q (.ref D) C (.ok .next) s'):
 wpAny (model prog w) A (newList []) (fun acc s₃=>wpAny (model prog w) A (newFunctionEnv scope env.globals (clOf env scope.names []) [] env.qual none .none (some env)) (fun cenv s₄=>
  codeAny (model prog w) A (.compStart (.ListComp elt [⟨target,iter,ifs,0⟩] scope pos) 0 (.ref I) acc {cenv with scope:=relabel scope env}) (compPost (model prog w) A E use Q acc cenv.locals) s₄) E s₃) E s₀:=by
 have F₁:FrR B' ι s₀.heap ρ env:=(S.fr _ _ _ F).ext' S.rel0 S.ext;refine wpAny_newList ?_ (by simp);have hzD:(s₀.heap.push (J1 #[] 0)).objs.size=s₀.heap.objs.size+1:=Heap.size_push ..;have hDC:s₀.heap.objs.size≠(s₀.heap.push (J1 #[] 0)).objs.size:=by rw[hzD];exact Nat.ne_of_lt (Nat.lt_succ_self _)
 refine wpAny_newFunctionEnv (fun x hx=>ok.nocell x hx) (fun x hx=>by cases hx) (fun h₄ hns hsb=>?_) ok.kind;have hns:h₄.Ns (s₀.heap.push (J1 #[] 0)).objs.size fun _=>none:=hns;have hsb:Heap.SameBut (s₀.heap.push (J1 #[] 0)).objs.size ((s₀.heap.push (J1 #[] 0)).push {cls:=.type "dict",data:=.dict #[]}) h₄:=hsb;have hk:∀b o,s₀.heap.get? b=some o→h₄.get? b=some o:=fun b o eb=>by
  refine(hsb.2 b ?_).trans (G2 _ _ _ _ (G2 _ _ _ _ eb));rw[hzD];exact Nat.ne_of_lt (Nat.lt_succ_of_lt (Heap.lt_size eb))
 have hD₄:h₄.get? s₀.heap.objs.size=some (J1 #[] 0):=(hsb.2 _ hDC).trans (G2 _ _ _ _ (Qv _ rfl));have hC₀:s₀.heap.get? (s₀.heap.push (J1 #[] 0)).objs.size=none:=U0 (by rw[hzD];exact Nat.le_succ _);show codeAny (model prog w) A (.compStart (.ListComp elt [⟨target,iter,ifs,0⟩] scope pos) 0 (.ref I) (.ref s₀.heap.objs.size) (Gc scope env (s₀.heap.push (J1 #[] 0)).objs.size)) (compPost (model prog w) A E use Q (.ref s₀.heap.objs.size) (s₀.heap.push (J1 #[] 0)).objs.size) {s₀ with heap:=h₄,toks:=s₀.toks};generalize hCC:(s₀.heap.push (J1 #[] 0)).objs.size=C at *;have hD₀:s₀.heap.get? s₀.heap.objs.size=none:=Yo _;generalize hDD:s₀.heap.objs.size=D at *;have dead:∀b,s₀.heap.get? b=none→s.heap.get? b=none:=fun b hb=>by
  cases e:s.heap.get? b with
  |none=>rfl
  |some o=>obtain⟨o',e'⟩:=S.ext.live b o e;rw[hb]at e';cases e'
 have hCi:C∉ι:=fun h=>by obtain⟨o,e⟩:=S.ext.rel.live h;rw[hC₀]at e;cases e
 have hDi:D∉ι:=fun h=>by obtain⟨o,e⟩:=S.ext.rel.live h;rw[hD₀]at e;cases e
 have hcells:∀n b,(n,b)∈(Gc scope env C).cells→∃o,s.heap.get? b=some o:=fun n b hb=>by
  rcases clOf_mem hb with h|⟨_,h⟩
  ·cases h
  ·exact F.ownLive b (.inr ⟨n,mem_of_lookup h⟩)
 have X₀:Ext (prog:=prog) (w:=w) B' ι s σ₁ ι {s₀ with heap:=h₄,toks:=s₀.toks}:=S.ext.trans (Ext.grown S.ext.rel hk);have G₀:FrR B' ι h₄ (drp ρ t.vars) (Gc scope env C):=F₁.comp S.ext.rel ok hC₀ hk hns;have st₀:St 0 h₄:=(S.it A hh).frame _ _ _ S.st (fun b _ o e=>hk b o e) fun _ _ _ e=>hk _ _ e;have loop:codeAny (model prog w) A (.compLoop (.ListComp elt [⟨target,iter,ifs,0⟩] scope pos) 0 (.ref I) (.ref D) (Gc scope env C)) (compPost (model prog w) A E use Q (.ref D) C) {s₀ with heap:=h₄,toks:=s₀.toks}:=by
  refine lcomp_loop (C:=C) hh S Rl hm hmany ok (hc C) (he C) ?_ ?_ (Ne.symm hDC) ?_ (dead _ hC₀) (dead _ hD₀) hCi hDi X₀.weak G₀ st₀ hD₄ e ?_
  ·rintro b hb (h|⟨n,h⟩)
   ·have h:b=C:=h;obtain⟨_,o,ho⟩:=S.fresh b hb;rw[h,hC₀]at ho;cases ho
   ·refine z11 (hcells n b h) fun o ho=>?_;rw[(S.fresh b hb).1]at ho;cases ho
  ·intro hb;obtain⟨_,o,ho⟩:=S.fresh D hb;rw[hD₀]at ho;cases ho
  ·intro n hn;refine z11 (hcells n D hn) fun o ho=>?_;rw[dead _ hD₀]at ho;cases ho
  ·rintro σ₂ ι' s' vs n X hok rfl G hDv q hDi';have hCt:∀vs n,s'.heap.get? C≠some (G4 vs n):=fun vs n e=>G.tups _ _ _ e (.inl rfl);refine z12 G.ns fun m hnm _=>?_;have fin:=comp_fin (h':=s'.heap) (o:=.list acc) S Rl X hok (dead _ hC₀) (dead _ hD₀) G.locOut hDi' hCt (Heap.SameBut.refl _ _) ⟨vs,n,hDv,q.mono (fun _ _ _ e=>e) ⟨_,rfl⟩⟩ ⟨_,hDv⟩;have hlen:ι'.length=(src.free σ₂).length:=by have:=fin.rel.len;simpa using this
   refine hQ ι' s' C D m fin (.loc (by rw[←hlen];simp)) hnm ?_ (dead _ hC₀);intro hm;rcases Qh hm with h|h
   ·exact G.locOut h
   ·exact hDC (Q2 h).symm
 exact codeAny_compStart_list loop ((S.it A hh).self 0 _ _ _ st₀ loop)
noncomputable def dturn(x:Nat)(evk ev:Fr→Sto→Option (V×Sto))(ρ:Fr)(xv:V)(acc:List (List Int×V))(σ:Sto):Option (List (List Int×V)×Sto):=
 (evk (upd (drp ρ [x]) x xv) σ).bind fun kv=>kv.1.asT.bind fun kt=>(ev (upd (drp ρ [x]) x xv) kv.2).bind fun y=>(Je kt).bind fun k=>if acc.length<lim then some (dput acc k y.1,y.2)else none
theorem DictOfH.stay{h h':Heap}{d:Addr}{Qy:List (List Int×Addr×Value)}{es:List (List Int×V)}(x:h.DictOfH (KK prog w) d Qy)(r:J9 h' ι es Qy)(hk:∀o,h.get? d=some o→h'.get? d=some o):h'.DictOfH (KK prog w) d Qy:=Up x hk r.keys
noncomputable def dP(prog:Program)(w:World)(D:Addr)(a:List (List Int×V))(ι:List Addr)(h:Heap):Prop:=∃Qy,h.DictOfH (KK prog w) D Qy∧J9 h ι a Qy
theorem dP_acc{D:Addr}:AccD D (dP prog w D):=⟨fun hP hk hkt hp=>z12 hP fun Qy d q=>⟨Qy,Up d hk (q.mono hkt hp).keys,q.mono hkt hp⟩,fun hP=>z12 hP fun _ d _=>nt_dict d⟩
theorem dcomp_loop{B':Bas}{src:Src}{many:Bool}{σ₁ σ':Sto}{I:Addr}{s₀ s₁:Shared}{fp wr:List Addr}{St:Nat→Heap→Prop}{x:Nat}{kx vx target iter:PySem.Expr}{scope:Scope}{pos:Pos}{env:Env}{C D:Addr}{ρ:Fr}{acc:List (List Int×V)}{R:Result→Shared→Prop}
 {evk ev:Fr→Sto→Option (V×Sto)}
 (hh:A.handled=none) (hu:A.units+8<cLine) (S:Jv prog w B B' ι s src many σ₁ I s₀ fp wr St) (Rl:Rel prog w B σ ι s.heap) (hm:mTg (.one x) target=true) (hmany:many=true→Z6 target=true) (ok:Yh env scope [x])
 (hek:G5 prog w A B' (Gc scope env C) evk (eval kx (Gc scope env C))) (he:G5 prog w A B' (Gc scope env C) ev (eval vx (Gc scope env C)))
 (hwo:∀b∈wr,¬own (Gc scope env C) b) (hwD:D∉wr) (hCD:C≠D) (hDo:∀n,(n,D)∉(Gc scope env C).cells) (hC:s.heap.get? C=none) (hD:s.heap.get? D=none) (hCi:C∉ι) (hDi:D∉ι)
 (X₀:Gs (prog:=prog) (w:=w) (fun a=>a∈[C,D]) B' ι s σ₁ ι s₁) (G₀:FrR B' ι s₁.heap (drp ρ [x]) (Gc scope env C)) (st₀:St 0 s₁.heap) (acc₀:s₁.heap.DictOfH (KK prog w) D [])
 (e:J3 src (dturn x evk ev ρ) src.items [] σ₁=some (acc,σ'))
 (hR:∀σ₂ ι' s' Qy,Gs (prog:=prog) (w:=w) (fun a=>a∈[C,D]) B' ι s σ₂ ι' s'→src.ok σ₂=true→σ'=src.free σ₂→FrR B' ι' s'.heap (drp ρ [x]) (Gc scope env C)→s'.heap.DictOfH (KK prog w) D Qy→J9 s'.heap ι' acc Qy→D∉ι'→R (.ok .next) s'):
 codeAny (model prog w) A (.compLoop (.DictComp kx vx [⟨target,iter,[],0⟩] scope pos) 0 (.ref I) (.ref D) (Gc scope env C)) R s₁:=by
 have hno:¬own (Gc scope env C) D:=fun ho=>ho.elim (fun h=>hCD h.symm) fun h=>z11 h hDo;refine walkD (env:=Gc scope env C) (t:=.one x) dP_acc hh rfl rfl (by rfl) (fun _=>rfl) S Rl hmany hm (fun x hx=>⟨(ok.tgt x hx).1,lookup_relabel_local (env:=env) (ok.tgt x hx).2⟩) rfl hwo hwD hCD hCi hDi (fun _ _ e=>J0 hC e) (fun _ _ e=>J0 hD e) ?_ X₀ G₀ st₀ ⟨[],acc₀,.nil⟩ e fun σ₂ ι' s' X hok hf G h hi=>z12 h fun Qy h1 h2=>hR σ₂ ι' s' Qy X hok hf G h1 h2 hi;intro xv a σ₂ a₂ σ₃ hturn;refine⟨_,rfl,drp_bind (t:=.one x) rfl,fun ι₂ s₂ E Q R₂ G₂ hDi₂ hP h=>Qt (Qu ?_)⟩;refine cps fun qG qK=>?_;refine bnP hturn fun kv σ₄ hkey hturn=>bnE hturn fun kt hkt hturn=>bnP hturn fun y σ₅ hval hturn=>bnE hturn fun kk hkk ht=>zA2 (Gz ht) fun hlim ht=>?_;refine qK ?_;revert h;refine pr2 (Option.some.inj ht) fun h=>?_;refine Qt (Qt (hek ι₂ σ₂ s₂ _ _ σ₄ _ _ R₂ G₂ hkey fun ι₄ s₄ kvv Z₄ rk=>?_));refine Qt (wpAny_holding (he ι₄ σ₄ s₄ _ y _ _ _ Z₄.rel (G₂.ext' R₂ Z₄) hval fun ι₅ s₅ yv Z₅ ry=>?_));have Z:=Z₄.trans Z₅;refine zA2 (ext_acc dP_acc R₂ hP hDi₂ Z) fun hP₅ hDi₅=>z12 (id hP₅) fun Qy hD₅ q₅=>?_;have rk₅:VR s₅.heap ι₅ (keyV kk) kvv:=by
  have:=rk.ext Z₄.rel Z₅;rw[show kv=_ from Yu hkt,Ub hkk]at this;exact this
 refine z33 rk₅.tup_ref fun ka kvs kn ek _ _=>?_;subst ek;have hsz:Qy.length≤sizeLine:=Nat.le_of_lt (Nat.lt_of_lt_of_le (q₅.length▸hlim:Qy.length<lim) (by decide));refine Qt (wpAny_standAt (wpAny_holding (wpAny_dictSet_heap (A:=A) (knd:=KK prog w) (k:=kk) (Nat.lt_of_le_of_lt (Nat.le_add_right _ _) hu) (VR.isKey (k:=kk) rk₅) hD₅ (fun h₆ hD₆ hs₆=>?_) hsz)));refine zA3 (dTouch (C:=C) (t:=s₅.toks+(KK prog w).draws kk) Z.rel (G₂.ext' R₂ Z) hDi₅ (S.rel0.noB hD) hno (nt_dict hD₅) hs₆ (nt_dict hD₆).live) fun W G₆ hkt=>?_;exact Qu ⟨rfl,h ι₅ _ (Z.weak.trans W) G₆ ⟨_,hD₆,(q₅.put (DictOfH.nodup hD₅) rk₅ ry).mono hkt (Q3 _)⟩ hDi₅⟩
noncomputable def dobj:Obj:={cls:=.type "dict",data:=.dict #[]}
theorem dobj_dict{h:Heap}{d:Addr}(e:h.get? d=some dobj):h.DictOfH (KK prog w) d []:=by
 have h1:(h.push dobj).DictOfH (KK prog w) h.objs.size []:=Heap.DictOfH.new h;refine cps fun qG qK=>?_;obtain⟨o,es,ep,e1,r1,r2,r3,r4,r5⟩:=h1;refine qK ?_;have:(h.push dobj).get? h.objs.size=some dobj:=Qv _ rfl;rw[this]at e1;cases e1;exact⟨_,es,ep,e,r1,r2,r3,fun _ hx=>(by cases hx),r5⟩
theorem dcomp_core{B':Bas}{src:Src}{many:Bool}{σ₁ σ':Sto}{I:Addr}{s₀:Shared}{fp wr:List Addr}{St:Nat→Heap→Prop}{x:Nat}{kx vx target iter:PySem.Expr}{scope:Scope}{pos:Pos}{env:Env}{ρ:Fr}{acc:List (List Int×V)}
 {evk ev:Fr→Sto→Option (V×Sto)} {use:Option (Value→Sem Unit)} {Q:Value→Shared→Prop}
 (hh:A.handled=none) (hu:A.units+8<cLine) (S:Jv prog w B B' ι s src many σ₁ I s₀ fp wr St) (Rl:Rel prog w B σ ι s.heap) (F:FrR B ι s.heap ρ env) (hm:mTg (.one x) target=true) (hmany:many=true→Z6 target=true) (ok:Yh env scope [x])
 (hek:∀C,G5 prog w A B' (Gc scope env C) evk (eval kx (Gc scope env C))) (he:∀C,G5 prog w A B' (Gc scope env C) ev (eval vx (Gc scope env C)))
 (e:J3 src (dturn x evk ev ρ) src.items [] σ₁=some (acc,σ'))
 (hQ:∀ι' s' C D m,Ext (prog:=prog) (w:=w) B ι s (σ'++[.dict acc]) (ι'++[D]) s'→VR s'.heap (ι'++[D]) (.loc σ'.length) (.ref D)→s'.heap.Ns C m→C∉ι'++[D]→s.heap.get? C=none→compPost (model prog w) A E use Q (.ref D) C (.ok .next) s'):
 wpAny (model prog w) A newDict (fun acc s₃=>wpAny (model prog w) A (newFunctionEnv scope env.globals (clOf env scope.names []) [] env.qual none .none (some env)) (fun cenv s₄=>
  codeAny (model prog w) A (.compStart (.DictComp kx vx [⟨target,iter,[],0⟩] scope pos) 0 (.ref I) acc {cenv with scope:=relabel scope env}) (compPost (model prog w) A E use Q acc cenv.locals) s₄) E s₃) E s₀:=by
 have F₁:FrR B' ι s₀.heap ρ env:=(S.fr _ _ _ F).ext' S.rel0 S.ext;refine wpAny_newObj_type ?_ (by size_fits);have hzD:(s₀.heap.push (dobj)).objs.size=s₀.heap.objs.size+1:=Heap.size_push ..;have hDC:s₀.heap.objs.size≠(s₀.heap.push (dobj)).objs.size:=by rw[hzD];exact Nat.ne_of_lt (Nat.lt_succ_self _)
 refine wpAny_newFunctionEnv (fun x hx=>ok.nocell x hx) (fun x hx=>by cases hx) (fun h₄ hns hsb=>?_) ok.kind;have hns:h₄.Ns (s₀.heap.push (dobj)).objs.size fun _=>none:=hns;have hsb:Heap.SameBut (s₀.heap.push (dobj)).objs.size ((s₀.heap.push (dobj)).push {cls:=.type "dict",data:=.dict #[]}) h₄:=hsb;have hk:∀b o,s₀.heap.get? b=some o→h₄.get? b=some o:=fun b o eb=>by
  refine(hsb.2 b ?_).trans (G2 _ _ _ _ (G2 _ _ _ _ eb));rw[hzD];exact Nat.ne_of_lt (Nat.lt_succ_of_lt (Heap.lt_size eb))
 have hD₄:h₄.get? s₀.heap.objs.size=some (dobj):=(hsb.2 _ hDC).trans (G2 _ _ _ _ (Qv _ rfl));have hC₀:s₀.heap.get? (s₀.heap.push (dobj)).objs.size=none:=U0 (by rw[hzD];exact Nat.le_succ _);show codeAny (model prog w) A (.compStart (.DictComp kx vx [⟨target,iter,[],0⟩] scope pos) 0 (.ref I) (.ref s₀.heap.objs.size) (Gc scope env (s₀.heap.push (dobj)).objs.size)) (compPost (model prog w) A E use Q (.ref s₀.heap.objs.size) (s₀.heap.push (dobj)).objs.size) {s₀ with heap:=h₄,toks:=s₀.toks};generalize hCC:(s₀.heap.push (dobj)).objs.size=C at *;have hD₀:s₀.heap.get? s₀.heap.objs.size=none:=Yo _;generalize hDD:s₀.heap.objs.size=D at *;have dead:∀b,s₀.heap.get? b=none→s.heap.get? b=none:=fun b hb=>by
  cases e:s.heap.get? b with
  |none=>rfl
  |some o=>obtain⟨o',e'⟩:=S.ext.live b o e;rw[hb]at e';cases e'
 have hCi:C∉ι:=fun h=>by obtain⟨o,e⟩:=S.ext.rel.live h;rw[hC₀]at e;cases e
 have hDi:D∉ι:=fun h=>by obtain⟨o,e⟩:=S.ext.rel.live h;rw[hD₀]at e;cases e
 have hcells:∀n b,(n,b)∈(Gc scope env C).cells→∃o,s.heap.get? b=some o:=fun n b hb=>by
  rcases clOf_mem hb with h|⟨_,h⟩
  ·cases h
  ·exact F.ownLive b (.inr ⟨n,mem_of_lookup h⟩)
 have X₀:Ext (prog:=prog) (w:=w) B' ι s σ₁ ι {s₀ with heap:=h₄,toks:=s₀.toks}:=S.ext.trans (Ext.grown S.ext.rel hk);have G₀:FrR B' ι h₄ (drp ρ [x]) (Gc scope env C):=F₁.comp S.ext.rel ok hC₀ hk hns;have st₀:St 0 h₄:=(S.it A hh).frame _ _ _ S.st (fun b _ o e=>hk b o e) fun _ _ _ e=>hk _ _ e;have loop:codeAny (model prog w) A (.compLoop (.DictComp kx vx [⟨target,iter,[],0⟩] scope pos) 0 (.ref I) (.ref D) (Gc scope env C)) (compPost (model prog w) A E use Q (.ref D) C) {s₀ with heap:=h₄,toks:=s₀.toks}:=by
  refine dcomp_loop (C:=C) hh hu S Rl hm hmany ok (hek C) (he C) ?_ ?_ (Ne.symm hDC) ?_ (dead _ hC₀) (dead _ hD₀) hCi hDi X₀.weak G₀ st₀ (dobj_dict hD₄) e ?_
  ·rintro b hb (h|⟨n,h⟩)
   ·have h:b=C:=h;obtain⟨_,o,ho⟩:=S.fresh b hb;rw[h,hC₀]at ho;cases ho
   ·refine z11 (hcells n b h) fun o ho=>?_;rw[(S.fresh b hb).1]at ho;cases ho
  ·intro hb;obtain⟨_,o,ho⟩:=S.fresh D hb;rw[hD₀]at ho;cases ho
  ·intro n hn;refine z11 (hcells n D hn) fun o ho=>?_;rw[dead _ hD₀]at ho;cases ho
  ·rintro σ₂ ι' s' Qy X hok rfl G hDv q hDi';have hCt:∀vs n,s'.heap.get? C≠some (G4 vs n):=fun vs n e=>G.tups _ _ _ e (.inl rfl);refine z12 G.ns fun m hnm _=>?_;have fin:=comp_fin (h':=s'.heap) (o:=.dict acc) S Rl X hok (dead _ hC₀) (dead _ hD₀) G.locOut hDi' hCt (Heap.SameBut.refl _ _) ⟨Qy,hDv,q.mono (fun _ _ _ e=>e) ⟨_,rfl⟩⟩ (by obtain⟨o,_,_,e,_⟩:=id hDv;exact⟨o,e⟩);have hlen:ι'.length=(src.free σ₂).length:=by have:=fin.rel.len;simpa using this
   refine hQ ι' s' C D m fin (.loc (by rw[←hlen];simp)) hnm ?_ (dead _ hC₀);intro hm;rcases Qh hm with h|h
   ·exact G.locOut h
   ·exact hDC (Q2 h).symm
 exact codeAny_compStart_dict loop ((S.it A hh).self 0 _ _ _ st₀ loop)
noncomputable def Um(prog:Program)(w:World)(A:Around)(B:Bas)(env:Env)(k:ItK)(many:Bool)(ev:Fr→Sto→Option (V×Sto))(t:Sem Value):Prop:=
 ∀(ι:List Addr) (σ:Sto) (s:Shared) (ρ:Fr) (v:V) (σ₁:Sto) (src:Src) (σ₂:Sto) (Q:Value→Shared→Prop) (E:Value→Shared→Prop),Rel prog w B σ ι s.heap→FrR B ι s.heap ρ env→ev ρ σ=some (v,σ₁)→Gx k v σ₁=some (src,σ₂)→
  (∀ι₁ s₁ B' I s' fp wr St,Ext (prog:=prog) (w:=w) B ι s σ₁ ι₁ s₁→Jv prog w B B' ι₁ s₁ src many σ₂ I s' fp wr St→Q (.ref I) s')→wpAny (model prog w) A t (fun x s₁=>wpAny (model prog w) A (pyIter x) Q E s₁) E s
theorem Um.plain{env:Env}{ev:Fr→Sto→Option (V×Sto)}{t:Sem Value}(hB:∃o,B.get? sysModules=some o)(h:G5 prog w A B env ev t):Um prog w A B env .plain false ev t:=fun ι σ s ρ v σ₁ src σ₂ Q E R F e em hQ=>
 h ι σ s ρ v σ₁ _ _ R F e fun ι₁ s₁ u X r=>src_plain X.rel hB r em fun B' I s' fp wr St S=>hQ ι₁ s₁ B' I s' fp wr St X S
abbrev Bas.le(B B':Bas):Prop:=∀b o,B.get? b=some o→B'.get? b=some o
theorem Yh.names{env:Env}{scope:Scope}{xs:List Nat}(ok:Yh env scope xs):∀x∈scope.names,x.2=.local→scope.names.lookup x.1=some .local:=by
 intro x hx hl;rw[lookup_nodup ok.nodup hx,hl]
theorem post_wide{ι':List Addr}{σ':Sto}{s':Shared}{C:Addr}{m:Str→Option Value}{h':Heap}{v:V}{u:Value}(Rl:Rel prog w B σ ι s.heap)(x:Ext (prog:=prog) (w:=w) B ι s σ' ι' s')(r:VR s'.heap ι' v u)(hn:s'.heap.Ns C m)(hC:C∉ι')(hC0:s.heap.get? C=none)(hs:Heap.SameBut C s'.heap h'):
 Ext (prog:=prog) (w:=w) B ι s σ' ι' {s' with heap:=h'}∧VR h' ι' v u:=by
 have hnt:∀vs n,s'.heap.get? C≠some (G4 vs n):=fun vs n e=>by
  refine z33 hn fun o es ep e' hd _=>?_;rw[e]at e';cases e';cases hd
 have hBn:B.get? C=none:=by
  cases e:B.get? C with
  |none=>rfl
  |some o=>have:=Rl.base _ _ e;rw[hC0]at this;cases this
 have:=x.wide (W:=[C]) (h':=h') (tk:=s'.toks) (fun b hb=>by rw[Q2 hb];exact hC0) (fun b hb=>by rw[Q2 hb];exact hBn) (fun b hb=>by rw[Q2 hb];exact hC)
  (fun b hb vs n=>by rw[Q2 hb];exact hnt vs n) (fun b o hb e=>(hs.2 b fun h=>hb (by rw[h];simp)).trans e)
 exact⟨this,r.mono (fun a vs n e=>(hs.2 a fun h=>hnt vs n (h▸e)).trans e) (Q3 _)⟩
theorem snd_lcomp{Φ:Calls}{elt it:Ex}{t:Tg}{kd:ItK}{cond:Opt}{many:Bool}{env:Env}{eltP target iter:PySem.Expr}{ifs:List PySem.Expr}{scope:Scope}{pos:Pos}
 (hh:A.handled=none) (hsrc:Um prog w A B env kd many (evE Φ it) (eval iter env)) (hm:mTg t target=true) (hmany:many=true→Z6 target=true) (ok:Yh env scope t.vars) (hfold:∀x,foldedSetIterable iter env x=pure x)
 (hc:∀B',B.le B'→∀C,Y4 prog w A B' (Gc scope env C) (evC Φ cond) (tests ifs (Gc scope env C))) (he:∀B',B.le B'→∀C,G5 prog w A B' (Gc scope env C) (evE Φ elt) (eval eltP (Gc scope env C))):
 G5 prog w A B env (evE Φ (.lcomp elt t kd it cond)) (eval (.ListComp eltP [⟨target,iter,ifs,0⟩] scope pos) env):=by
 intro ι σ s ρ v σ' Q E R F e h;refine bnP e fun v₁ σ₁ hit e=>?_;refine bnP e fun src σ₂ hmk e=>?_;refine bnP e fun acc σ₃ hl e=>?_;have h:=h.si e;show wpAny _ _ (comprehension (.ListComp eltP [⟨target,iter,ifs,0⟩] scope pos) scope env (firstIterPos [⟨target,iter,ifs,0⟩] pos) (newList []) false (eval iter env)) _ _ _;refine wpAny_comprehension_free rfl hfold (Jw fun n hn=>Option.isSome_iff_exists.mp (ok.free n hn).2) ok.kind ok.names ?_;refine hsrc ι σ s ρ v₁ σ₁ src σ₂ _ _ R F hit hmk fun ι₁ s₁ B' I s' fp wr St X S=>?_;refine lcomp_core hh S X.rel (F.ext' R X) hm hmany ok (hc B' S.le) (he B' S.le) hl fun ι' s₂ C D m Y r hn hC hC0=>?_;refine⟨m,hn,fun h' hs=>?_⟩;refine zA2 (post_wide X.rel Y r hn hC hC0 hs) fun Y' r'=>?_;exact h _ _ _ (X.trans Y') r'
theorem snd_dcomp{Φ:Calls}{key val it:Ex}{x:Nat}{env:Env}{kx vx target iter:PySem.Expr}{scope:Scope}{pos:Pos}
 (hh:A.handled=none) (hu:A.units+8<cLine) (hsrc:Um prog w A B env .plain false (evE Φ it) (eval iter env)) (hm:mTg (.one x) target=true) (ok:Yh env scope [x]) (hfold:∀x,foldedSetIterable iter env x=pure x)
 (hk:∀B',B.le B'→∀C,G5 prog w A B' (Gc scope env C) (evE Φ key) (eval kx (Gc scope env C))) (he:∀B',B.le B'→∀C,G5 prog w A B' (Gc scope env C) (evE Φ val) (eval vx (Gc scope env C))):
 G5 prog w A B env (evE Φ (.dcomp key val x it)) (eval (.DictComp kx vx [⟨target,iter,[],0⟩] scope pos) env):=by
 intro ι σ s ρ v σ' Q E R F e h;refine cps fun qG qK=>?_;refine bnP e fun v₁ σ₁ hit e=>?_;refine bnP e fun src σ₂ hmk e=>?_;refine bnP e fun acc σ₃ hl e=>?_;have h:=h.si e;refine qK ?_;show wpAny _ _ (comprehension (.DictComp kx vx [⟨target,iter,[],0⟩] scope pos) scope env (firstIterPos [⟨target,iter,[],0⟩] pos) newDict false (eval iter env)) _ _ _;refine wpAny_comprehension_free rfl hfold (Jw fun n hn=>Option.isSome_iff_exists.mp (ok.free n hn).2) ok.kind ok.names ?_;refine hsrc ι σ s ρ v₁ σ₁ src σ₂ _ _ R F hit hmk fun ι₁ s₁ B' I s' fp wr St X S=>?_;refine dcomp_core hh hu S X.rel (F.ext' R X) hm (fun h=>by cases h) ok (hk B' S.le) (he B' S.le) hl fun ι' s₂ C D m Y r hn hC hC0=>?_;refine⟨m,hn,fun h' hs=>?_⟩;refine zA2 (post_wide X.rel Y r hn hC hC0 hs) fun Y' r'=>?_;exact h _ _ _ (X.trans Y') r'
noncomputable def evT(ev:Fr→Sto→Option (V×Sto))(ρ:Fr)(σ:Sto):Option (Bool×Sto):=(ev ρ σ).bind fun x=>x.1.asB.bind fun b=>some (b,x.2)
theorem Yn{ev:Fr→Sto→Option (V×Sto)}{ρ:Fr}{σ:Sto}{x:V×Sto}{b:Bool}(e:ev ρ σ=some x)(h:x.1=.bool b):evT ev ρ σ=some (b,x.2):=by
 unfold evT;rw[e,Q0,h];rfl
theorem evT_inv{ev:Fr→Sto→Option (V×Sto)}{ρ:Fr}{σ σ':Sto}{b:Bool}(e:evT ev ρ σ=some (b,σ')):ev ρ σ=some (.bool b,σ'):=by
 refine bnP e fun v s e1 e=>?_;refine bnE e fun c h e=>?_;obtain⟨rfl,rfl⟩:=si e;rw[e1,←asB_inv h]
theorem J8.nil{env:Env}{Φ:Calls}{N:Nat}:J8 prog w A B env (exB Φ N .nil) (execs [] env):=fun ι σ s ρ fl ρ' σ' Q E R F e h=>by
 obtain⟨rfl,rfl,rfl⟩:=si3 e;exact wpAny_execs_nil (h ι s _ (Gs.refl R) F .next)
theorem J8.cons{env:Env}{Φ:Calls}{N:Nat}{st:St}{b:Blk}{stP:Stmt}{rest:List Stmt}(h1:J8 prog w A B env (exS Φ N st) (exec stP env))(h2:J8 prog w A B env (exB Φ N b) (execs rest env)):
 J8 prog w A B env (exB Φ N (.cons st b)) (execs (stP::rest) env):=fun ι σ s ρ fl ρ' σ' Q E R F e h=>by
 refine wpAny_execs_cons ?_;refine cps fun qG qK=>?_;obtain⟨⟨f₁,ρ₁,σ₁⟩,e1,e⟩:=bnx e;refine qK ?_;refine h1 ι σ s ρ f₁ ρ₁ σ₁ _ _ R F e1 fun ι₁ s₁ f X F₁ hf=>?_;cases hf with
 |next=>exact h2 ι₁ σ₁ s₁ ρ₁ fl ρ' σ' Q E X.rel F₁ e fun ι₂ s₂ f Y F₂ hf=>h ι₂ s₂ f (X.trans Y) F₂ hf
 |cont=>
  refine cps fun qG qK=>?_;obtain⟨rfl,rfl,rfl⟩:=si3 e;refine qK ?_;exact h _ _ _ X F₁ .cont
 |ret r=>
  refine cps fun qG qK=>?_;obtain⟨rfl,rfl,rfl⟩:=si3 e;refine qK ?_;exact h _ _ _ X F₁ (.ret r)
theorem J8.ite{env:Env}{Φ:Calls}{N:Nat}{c:Ex}{a b:Blk}{test:PySem.Expr}{body orelse:List Stmt}{pos:Pos}(hc:Y4 prog w A B env (evT (evE Φ c)) (isTrue test env (eval test env)))(h1:J8 prog w A B env (exB Φ N a) (execs body env))(h2:J8 prog w A B env (exB Φ N b) (execs orelse env)):
 J8 prog w A B env (exS Φ N (.ite c a b)) (exec (.If test body orelse pos) env):=fun ι σ s ρ fl ρ' σ' Q E R F e h=>by
 refine wpAny_If ?_;refine bnE e fun x e1 e=>?_;rcases tst_inv e with⟨hx,e⟩|⟨hx,e⟩
 ·refine hc ι σ s ρ true x.2 _ _ R F (Yn e1 hx) fun ι₁ s₁ X=>?_;exact h1 ι₁ x.2 s₁ ρ fl ρ' σ' Q E X.rel (F.ext' R X) e fun ι₂ s₂ f Y F₂ hf=>h ι₂ s₂ f (X.weak.trans Y) F₂ hf
 ·refine hc ι σ s ρ false x.2 _ _ R F (Yn e1 hx) fun ι₁ s₁ X=>?_;exact h2 ι₁ x.2 s₁ ρ fl ρ' σ' Q E X.rel (F.ext' R X) e fun ι₂ s₂ f Y F₂ hf=>h ι₂ s₂ f (X.weak.trans Y) F₂ hf
theorem J8.loop{env:Env}{Φ:Calls}{N:Nat}{c:Ex}{b:Blk}{test:PySem.Expr}{body:List Stmt}{pos:Pos}(hc:Y4 prog w A B env (evT (evE Φ c)) (isTrue test env (eval test env)))(h1:J8 prog w A B env (exB Φ N b) (execs body env)):
 J8 prog w A B env (exS Φ N (.loop c b)) (exec (.While test body [] pos) env):=fun ι σ s ρ fl ρ' σ' Q E R F e h=>by
 refine wpAny_While ?_;refine codeAny_whileLoop (fun n s₁=>∃ι₁ σ₁ ρ₁,Gs (prog:=prog) (w:=w) (own env) B ι s σ₁ ι₁ s₁∧FrR B ι₁ s₁.heap ρ₁ env∧loopW n (evE Φ c) (exB Φ N b) ρ₁ σ₁=some (fl,ρ',σ')) ?_ N ⟨ι,σ,ρ,Gs.refl R,F,e⟩;rintro n s₁ ⟨ι₁,σ₁,ρ₁,X,G,hl⟩;cases n with
 |zero=>cases hl
 |succ n=>
  refine bnE hl fun x e1 hl=>?_;rcases tst_inv hl with⟨hx,hl⟩|⟨hx,hl⟩
  ·refine hc ι₁ σ₁ s₁ ρ₁ true x.2 _ _ X.rel G (Yn e1 hx) fun ι₂ s₂ Y=>?_;obtain⟨⟨f₂,ρ₃,σ₃⟩,e2,hl⟩:=bnx hl;refine h1 ι₂ x.2 s₂ ρ₁ _ _ _ _ _ Y.rel (G.ext' X.rel Y) e2 fun ι₃ s₃ f Z G₃ hf=>?_;cases hf with
   |next=>exact⟨n,Nat.lt_succ_self _,ι₃,σ₃,ρ₃,X.trans (Y.weak.trans Z),G₃,hl⟩
   |cont=>exact⟨n,Nat.lt_succ_self _,ι₃,σ₃,ρ₃,X.trans (Y.weak.trans Z),G₃,hl⟩
   |ret r=>
    obtain⟨rfl,rfl,rfl⟩:=si3 hl;exact h _ _ _ (X.trans (Y.weak.trans Z)) G₃ (.ret r)
  ·obtain⟨rfl,rfl,rfl⟩:=si3 hl;refine hc ι₁ σ₁ s₁ ρ₁ false x.2 _ _ X.rel G (Yn e1 hx) fun ι₂ s₂ Y=>?_;exact wpAny_execs_nil (h _ _ _ (X.trans Y.weak) (G.ext' X.rel Y) .next)
theorem J8.ret{env:Env}{Φ:Calls}{N:Nat}{x:Ex}{eP:PySem.Expr}{pos:Pos}(h1:G5 prog w A B env (evE Φ x) (eval eP env)):J8 prog w A B env (exS Φ N (.ret x)) (exec (.Return (some eP) pos) env):=fun ι σ s ρ fl ρ' σ' Q E R F e h=>by
 refine bnE e fun x e1 e=>?_;obtain⟨rfl,rfl,rfl⟩:=si3 e;exact wpAny_Return_some (h1 ι σ s ρ x.1 x.2 _ _ R F e1 fun ι₁ s₁ u X r=>h _ _ _ X.weak (F.ext' R X) (.ret r))
theorem J8.cont{env:Env}{Φ:Calls}{N:Nat}{pos:Pos}:J8 prog w A B env (exS Φ N .cont) (exec (.Continue pos) env):=fun ι σ s ρ fl ρ' σ' Q E R F e h=>by
 obtain⟨rfl,rfl,rfl⟩:=si3 e;exact wpAny_Continue (h _ _ _ (Gs.refl R) F .cont)
theorem J8.expr{env:Env}{Φ:Calls}{N:Nat}{x:Ex}{eP:PySem.Expr}{pos:Pos}(h1:G5 prog w A B env (evE Φ x) (eval eP env))(hi:interactive env=false)(hs:swapsWith eP none pos.line env=pure false):J8 prog w A B env (exS Φ N (.expr x)) (exec (.Expr eP pos) env):=fun ι σ s ρ fl ρ' σ' Q E R F e h=>by
 refine bnE e fun x e1 e=>?_;obtain⟨rfl,rfl,rfl⟩:=si3 e;exact wpAny_Expr_any (h1 ι σ s ρ x.1 x.2 _ _ R F e1 fun ι₁ s₁ u X r=>h _ _ _ X.weak (F.ext' R X) .next) hi hs
theorem J8.for{env:Env}{Φ:Calls}{N:Nat}{t:Tg}{kd:ItK}{many:Bool}{it:Ex}{b:Blk}{target iter:PySem.Expr}{body:List Stmt}{pos:Pos}(hh:A.handled=none)
 (hsrc:Um prog w A B env kd many (evE Φ it) (eval iter env)) (hm:mTg t target=true) (hmany:many=true→Z6 target=true) (hc:∀x∈t.vars,Y9 env x) (hfold:∀x,foldedSetIterable iter env x=pure x)
 (hb:∀B',B.le B'→J8 prog w A B' env (exB Φ N b) (execs body env)):J8 prog w A B env (exS Φ N (.for t kd it b)) (exec (.For target iter body [] pos) env):=fun ι σ s ρ fl ρ' σ' Q E R F e h=>by
 refine bnP e fun v σ₁ e1 e=>?_;refine bnP e fun src σ₂ hmk e=>?_;refine wpAny_For ?_ hfold;refine hsrc ι σ s ρ v σ₁ src σ₂ _ _ R F e1 hmk fun ι₁ s₁ B' I s' fp wr St X S=>?_;exact for_snd hh S X.rel (F.ext' R X) hm hmany hc (hb B' S.le) e fun ι₂ s₂ f Y F₂ hf=>h ι₂ s₂ f (X.weak.trans Y) F₂ hf
end
section
variable{prog:Program}{w:World}{A:Around}{E:Value→Shared→Prop}{B:Bas}{σ:Sto}{ι:List Addr}{s:Shared}{k:Nat}{env:Env}{Φ:Calls}
theorem Jp.later{σ₁ σ':Sto}{ι₁:List Addr}{s₁:Shared}{v:V}{Q:Value→Shared→Prop}(X:Ext (prog:=prog) (w:=w) B ι s σ₁ ι₁ s₁)(h:Jp prog w B ι s v σ' Q):Jp prog w B ι₁ s₁ v σ' Q:=fun ι' s' u Z r=>h ι' s' u (X.trans Z) r
theorem G5.none{kk:Nat}{pos:Pos}:G5 prog w A B env (evE Φ .none) (eval (.Constant .none kk pos) env):=fun ι σ s ρ v σ' Q E R F e h=>by
 have h:=h.si e;exact wpAny_Constant_none (h.here R .none)
theorem G5.bool{b:Bool}{kk:Nat}{pos:Pos}:G5 prog w A B env (evE Φ (.bool b)) (eval (.Constant (.bool b) kk pos) env):=fun ι σ s ρ v σ' Q E R F e h=>by
 have h:=h.si e;exact wpAny_Constant_bool (h.here R (.bool b))
theorem G5.int{i:Int}{kk:Nat}{pos:Pos}:G5 prog w A B env (evE Φ (.int i)) (eval (.Constant (.int i) kk pos) env):=fun ι σ s ρ v σ' Q E R F e h=>by
 have h:=h.si e;exact wpAny_Constant_int (h.tok R _ (.int i _))
theorem G5.str{j:Nat}(hj:j<3){kk:Nat}{pos:Pos}:G5 prog w A B env (evE Φ (.str j)) (eval (.Constant (.str (snm j)) kk pos) env):=fun ι σ s ρ v σ' Q E R F e h=>by
 have h:=h.si e;exact wpAny_Constant_str (h.tok R _ (.str j _ hj))
theorem G5.var{x:Nat}{pos:Pos}(hk:env.kindOf (nm x)=some .local∨env.kindOf (nm x)=some .cell∨env.kindOf (nm x)=some .free):G5 prog w A B env (evE Φ (.var x)) (eval (.Name (nm x) pos) env):=fun ι σ s ρ v σ' Q E R F e h=>by
 refine bnE e fun v' hv e=>?_;have h:=h.si e;exact wpAny_Name (F.load hv hk fun u r=>h.here R r) (nm_ndebug x (F.rng x _ hv))
theorem G5.bin{op:BOp}{a b:Ex}{aP bP:PySem.Expr}{pos:Pos}(hbs:Bs prog B)(rm:Yj A k)(h1:G5 prog w A B env (evE Φ a) (eval aP env))(h2:G5 prog w A B env (evE Φ b) (eval bP env)):
 G5 prog w A B env (evE Φ (.bin op a b)) (eval (.BinOp aP (bopOf op) bP pos) env):=fun ι σ s ρ v σ' Q E R F e h=>by
 refine bnE e fun x e1 e=>?_;refine bnE e fun y e2 e=>?_;refine wpAny_BinOp (h1 ι σ s ρ x.1 x.2 _ _ R F e1 fun ι₁ s₁ u X r=>h2 ι₁ x.2 s₁ ρ y.1 y.2 _ _ X.rel (F.ext' R X) e2 fun ι₂ s₂ u' Y r'=>?_);exact binop_snd hbs Y.rel rm e (r.ext X.rel Y) r' (h.later (X.trans Y))
theorem G5.neg{a:Ex}{aP:PySem.Expr}{pos:Pos}(h1:G5 prog w A B env (evE Φ a) (eval aP env)):G5 prog w A B env (evE Φ (.neg a)) (eval (.UnaryOp .USub aP pos) env):=fun ι σ s ρ v σ' Q E R F e h=>by
 refine cps fun qG qK=>?_;refine bnE e fun x e1 e=>?_;refine bnE e fun i hi e=>?_;have h:=h.si e;refine qK ?_;refine wpAny_UnaryOp (h1 ι σ s ρ x.1 x.2 _ _ R F e1 fun ι₁ s₁ u X r=>?_);rw[Yd hi]at r;refine VR.intE r fun t=>?_;exact PySem.P.neg_int ((h.later X).tok X.rel _ (.int _ _))
theorem G5.cmp{op:COp}{a b:Ex}{aP bP:PySem.Expr}{pos:Pos}(hbs:Bs prog B)(rm:Yj A k)(hm:behindInMarks (copOf op) bP=false)(h1:G5 prog w A B env (evE Φ a) (eval aP env))(h2:G5 prog w A B env (evE Φ b) (eval bP env)):
 G5 prog w A B env (evE Φ (.cmp op a b)) (eval (.Compare aP [copOf op] [bP] pos) env):=fun ι σ s ρ v σ' Q E R F e h=>by
 refine cps fun qG qK=>?_;refine bnE e fun x e1 e=>?_;refine bnE e fun y e2 e=>?_;refine bnE e fun r0 hr e=>?_;have h:=h.si e;refine qK ?_;refine wpAny_Compare1 (h1 ι σ s ρ x.1 x.2 _ _ R F e1 fun ι₁ s₁ u X r=>h2 ι₁ x.2 s₁ ρ y.1 y.2 _ _ X.rel (F.ext' R X) e2 fun ι₂ s₂ u' Y r'=>?_) hm;exact cmpop_snd Y.rel hbs.two rm hr (r.ext X.rel Y) r' fun t=>(h.later (X.trans Y)).tok Y.rel t (.bool _)
theorem Y4.cmp{op:COp}{a b:Ex}{aP bP:PySem.Expr}{pos:Pos}{whole:Sem Value}(hbs:Bs prog B)(rm:Yj A k)(hm:behindInMarks (copOf op) bP=false)(h1:G5 prog w A B env (evE Φ a) (eval aP env))(h2:G5 prog w A B env (evE Φ b) (eval bP env)):
 Y4 prog w A B env (evT (evE Φ (.cmp op a b))) (isTrue (.Compare aP [copOf op] [bP] pos) env whole):=fun ι σ s ρ bb σ' Q E R F e h=>by
 refine cps fun qG qK=>?_;refine bnE (evT_inv e) fun x e1 e=>?_;refine bnE e fun y e2 e=>?_;refine bnE e fun r0 hr e=>?_;obtain⟨hb,rfl⟩:=si e;refine qK ?_;cases hb;refine wpAny_isTrue_Compare1 (h1 ι σ s ρ x.1 x.2 _ _ R F e1 fun ι₁ s₁ u X r=>h2 ι₁ x.2 s₁ ρ y.1 y.2 _ _ X.rel (F.ext' R X) e2 fun ι₂ s₂ u' Y r'=>?_) hm;exact cmpop_snd Y.rel hbs.two rm hr (r.ext X.rel Y) r' fun t=>wpAny_truthy_bool (h ι₂ _ ((X.trans Y).trans (Gs.tok Y.rel t)))
theorem G5.ite{c a b:Ex}{test aP bP:PySem.Expr}{pos:Pos}(hc:Y4 prog w A B env (evT (evE Φ c)) (isTrue test env (eval test env)))(h1:G5 prog w A B env (evE Φ a) (eval aP env))(h2:G5 prog w A B env (evE Φ b) (eval bP env)):
 G5 prog w A B env (evE Φ (.ite c a b)) (eval (.IfExp test aP bP pos) env):=fun ι σ s ρ v σ' Q E R F e h=>by
 refine bnE e fun x e1 e=>?_;refine wpAny_IfExp ?_;rcases tst_inv e with⟨hx,e⟩|⟨hx,e⟩
 ·exact hc ι σ s ρ true x.2 _ _ R F (Yn e1 hx) fun ι₁ s₁ X=>h1 ι₁ x.2 s₁ ρ v σ' Q E X.rel (F.ext' R X) e (h.later X)
 ·exact hc ι σ s ρ false x.2 _ _ R F (Yn e1 hx) fun ι₁ s₁ X=>h2 ι₁ x.2 s₁ ρ v σ' Q E X.rel (F.ext' R X) e (h.later X)
noncomputable def Za(prog:Program)(w:World)(A:Around)(B:Bas)(env:Env)(ev:Fr→Sto→Option (List V×Sto))(t:Sem (List Value)):Prop:=
 ∀(ι:List Addr) (σ:Sto) (s:Shared) (ρ:Fr) (vs:List V) (σ':Sto) (Q:List Value→Shared→Prop) (E:Value→Shared→Prop),Rel prog w B σ ι s.heap→FrR B ι s.heap ρ env→ev ρ σ=some (vs,σ')→
  (∀ι' s' us,Ext (prog:=prog) (w:=w) B ι s σ' ι' s'→VsR s'.heap ι' vs us→Q us s')→wpAny (model prog w) A t Q E s
theorem Za.nil{pos:Pos}:Za prog w A B env (Uc Φ .nil) (spliced (backTo pos (starEach [] env))):=fun ι σ s ρ vs σ' Q E R F e h=>by
 obtain⟨rfl,rfl⟩:=si e;exact Calls.spliced_nil (h ι s [] (Gs.refl R) .nil)
theorem Za.cons{pos:Pos}{x:Ex}{xs:Exs}{e0:PySem.Expr}{es:List PySem.Expr}(hst:starEach (e0::es) env=(false,eval e0 env)::starEach es env)(h1:G5 prog w A B env (evE Φ x) (eval e0 env))(h2:Za prog w A B env (Uc Φ xs) (spliced (backTo pos (starEach es env)))):
 Za prog w A B env (Uc Φ (.cons x xs)) (spliced (backTo pos (starEach (e0::es) env))):=fun ι σ s ρ vs σ' Q E R F e h=>by
 rw[hst];show wpAny _ _ (spliced ((false,eval e0 env)::backTo pos (starEach es env))) _ _ _;refine cps fun qG qK=>?_;refine bnE e fun x e1 e=>?_;refine bnE e fun y e2 e=>?_;obtain⟨rfl,rfl⟩:=si e;refine qK ?_;exact Calls.spliced_cons (h1 ι σ s ρ x.1 x.2 _ _ R F e1 fun ι₁ s₁ u X r=>h2 ι₁ x.2 s₁ ρ y.1 y.2 _ _ X.rel (F.ext' R X) e2 fun ι₂ s₂ us Y q=>h ι₂ s₂ _ (X.trans Y) (.cons (r.ext X.rel Y) q))
noncomputable def Exs.size:Exs→Nat
 |.nil=>0
 |.cons _ es=>es.size+1
theorem evEs_len:∀{es:Exs} {ρ:Fr} {σ σ':Sto} {vs:List V},Uc Φ es ρ σ=some (vs,σ')→vs.length=es.size
 |.nil,ρ,σ,σ',vs,e=>by obtain⟨rfl,rfl⟩:=si e;rfl
 |.cons x xs,ρ,σ,σ',vs,e=>by
  refine bnE e fun x e1 e=>?_;refine bnE e fun y e2 e=>?_;obtain⟨rfl,rfl⟩:=si e;exact congrArg (· +1) (evEs_len e2)
theorem G5.tup{es:Exs}{elts:List PySem.Expr}{kk:Nat}{pos:Pos}(hn:es.size<1000)(h1:Za prog w A B env (Uc Φ es) (spliced (backTo pos (starEach elts env)))):G5 prog w A B env (evE Φ (.tup es)) (eval (.Tuple elts kk pos) env):=fun ι σ s ρ v σ' Q E R F e h=>by
 refine bnE e fun x e1 e=>?_;obtain⟨rfl,rfl⟩:=si e;have hl:=evEs_len e1;refine wpAny_Tuple (h1 ι σ s ρ x.1 x.2 _ _ R F e1 fun ι₁ s₁ us X q=>⟨?_,?_⟩)
 ·have:=q.length;unfold sizeLine;exact Gh (Y6 _ _ _) 1 (.var 0) (.num 16777216) [Ge 1 (.var 1) (.num 1000),Gp 1 (.var 2) (.var 1),Gp 1 (.var 0) (.var 2)] rfl hn hl (Eq.symm this)
 ·exact(h.later X).tup (t:=s₁.toks) (n:=0) (vs:=us.toArray) X.rel (by rw[List.toList_toArray];exact q)
theorem G5.lst{es:Exs}{elts:List PySem.Expr}{pos:Pos}(hn:es.size<1000)(h1:Za prog w A B env (Uc Φ es) (spliced (backTo pos (starEach elts env)))):G5 prog w A B env (evE Φ (.lst es)) (eval (.List elts pos) env):=fun ι σ s ρ v σ' Q E R F e h=>by
 refine bnE e fun x e1 e=>?_;obtain⟨rfl,rfl⟩:=si e;have hl:=evEs_len e1;refine wpAny_List (h1 ι σ s ρ x.1 x.2 _ _ R F e1 fun ι₁ s₁ us X q=>⟨?_,?_⟩)
 ·have:=q.length;unfold sizeLine;exact Gh (Y6 _ _ _) 1 (.var 0) (.num 16777216) [Ge 1 (.var 1) (.num 1000),Gp 1 (.var 2) (.var 1),Gp 1 (.var 0) (.var 2)] rfl hn hl (Eq.symm this)
 ·exact(h.later X).list (t:=s₁.toks) (n:=0) (vs:=us.toArray) X.rel (by rw[List.toList_toArray];exact q)
theorem G5.sub{a b:Ex}{aP bP:PySem.Expr}{pos:Pos}(hbs:Bs prog B)(rm:Yj A k)(hsub:∀o i,∃ops,subscripted bP false o i=operate ops (getItem o i))(h1:G5 prog w A B env (evE Φ a) (eval aP env))(h2:G5 prog w A B env (evE Φ b) (eval bP env)):
 G5 prog w A B env (evE Φ (.sub a b)) (eval (.Subscript aP bP pos) env):=fun ι σ s ρ v σ' Q E R F e h=>by
 refine cps fun qG qK=>?_;refine bnE e fun x e1 e=>?_;refine bnE e fun y e2 e=>?_;refine bnE e fun r0 hr e=>?_;obtain⟨rfl,rfl⟩:=si e;refine qK ?_;refine Subscript_ (h1 ι σ s ρ x.1 x.2 _ _ R F e1 fun ι₁ s₁ u X r=>h2 ι₁ x.2 s₁ ρ y.1 y.2 _ _ X.rel (F.ext' R X) e2 fun ι₂ s₂ u' Y r'=>?_);refine z11 (hsub u u') fun ops hops=>?_;exact subop_snd hbs Y.rel rm hr (r.ext X.rel Y) r' hops (h.later (X.trans Y))
noncomputable def primFn:Prim→Value
 |.len=>.builtin "len" |.sum=>.builtin "sum" |.max=>.builtin "max" |.min=>.builtin "min" |.abs=>.builtin "abs" |.any=>.builtin "any" |.sorted=>.builtin "sorted"
 |.tuple=>.type "tuple" |.dict=>.type "dict" |.int=>.type "int"
theorem VR.ofL{h:Heap}{x:V}{n:Nat}{v:Value}(e:x.asL=some n)(r:VR h ι x v):VR h ι (.loc n) v:=asL_inv e▸r
@[elab_as_elim] theorem VsR.one1E {h:Heap} {vs:List V} {us:List Value} {x:V} {P:List Value→Prop} (e:Uu vs=some x) (q:VsR h ι vs us) (k:∀a,VR h ι x a→P [a]):P us:=by
 rw[one1_inv e]at q;refine z12 q.one fun y ey a=>?_;subst ey;exact k y a
@[elab_as_elim] theorem VsR.two2E {h:Heap} {vs:List V} {us:List Value} {p:V×V} {P:List Value→Prop} (e:two2 vs=some p) (q:VsR h ι vs us) (k:∀a b,VR h ι p.1 a→VR h ι p.2 b→P [a,b]):P us:=by
 rw[two2_inv e]at q;refine z23 q.two fun y z ey a b=>?_;subst ey;exact k y z a b
theorem prim_snd{p:Prim}{vs:List V}{us:List Value}{v:V}{σ':Sto}{Q:Value→Shared→Prop}(hbs:Bs prog B)(R:Rel prog w B σ ι s.heap)(rm:Yj A k)(q:VsR s.heap ι vs us)(e:Jd p vs σ=some (v,σ'))(h:Jp prog w B ι s v σ' Q):wpAny (model prog w) A (call (primFn p) us) Q E s:=by
 cases p with
 |len=>exact bnE e fun x hx e=>VsR.one1E hx q fun a r=>bnE e fun n hn e=>bnE e fun m hm e=>zA2 (Gz e) fun hlim e=>len_snd hbs R (VR.ofL hn r) hm hlim (h.si e)
 |sum=>exact bnE e fun x hx e=>VsR.one1E hx q fun a r=>bnE e fun l hl e=>bnE hl fun l0 h2 h3=>sum_snd R rm r h2 h3 (h.si e)
 |max=>
  cases h1:Uu vs with
  |some x=>
   unfold Jd at e;dsimp only at e;rw[h1]at e;exact VsR.one1E h1 q fun a r=>bnE e fun n hn e=>bnE e fun l hl e=>bnE hl fun l0 h2 h3=>bnE e fun b hb e=>z22 (maxL_inv hb) fun y z e1 e2=>by
    subst e1 e2;exact max_list_snd R rm (VR.ofL hn r) h2 h3 (h.si e)
  |none=>
   unfold Jd at e;dsimp only at e;rw[h1]at e;exact bnE e fun p hp e=>VsR.two2E hp q fun a b r r'=>bnE e fun i hi e=>bnE e fun j hj e=>max2_snd R rm (VR.ofI hi r) (VR.ofI hj r') (h.si e)
 |min=>exact bnE e fun p hp e=>VsR.two2E hp q fun a b r r'=>bnE e fun i hi e=>bnE e fun j hj e=>min2_snd R rm (VR.ofI hi r) (VR.ofI hj r') (h.si e)
 |abs=>exact bnE e fun x hx e=>VsR.one1E hx q fun a r=>bnE e fun b hb e=>abs_snd R (VR.ofI hb r) (h.si e)
 |any=>exact bnE e fun x hx e=>VsR.one1E hx q fun a r=>bnE e fun n hn e=>bnE e fun b hb e=>bnE hb fun l0 h2 h3=>any_snd R rm (VR.ofL hn r) h2 h3 (h.si e)
 |tuple=>exact bnE e fun x hx e=>VsR.one1E hx q fun a r=>bnE e fun n hn e=>bnE e fun l hl e=>zA2 (Gz e) fun hlim e=>tuple_snd R (VR.ofL hn r) hl hlim (h.si e)
 |dict=>exact bnE e fun x hx e=>VsR.one1E hx q fun a r=>bnE e fun n hn e=>bnE e fun o ho e=>dict_snd hbs R rm (VR.ofL hn r) ho e h
 |sorted=>exact bnE e fun x hx e=>VsR.one1E hx q fun a r=>bnE e fun n hn e=>bnE e fun l hl e=>bnE e fun l' hs e=>sorted_snd R hbs.two rm (VR.ofL hn r) hl hs (h.si e)
 |int=>exact bnE e fun x hx e=>VsR.one1E hx q fun a r=>bnE e fun b hb e=>int_snd R (VR.ofI hb r) (h.si e)
theorem G5.prim{p:Prim}{es:Exs}{f:PySem.Expr}{args:List PySem.Expr}{pos:Pos}{tree:Sem Value}
 (htree:∀(ι:List Addr) (σ:Sto) (s:Shared) (ρ:Fr) (Q:Value→Shared→Prop) (E:Value→Shared→Prop),Rel prog w B σ ι s.heap→FrR B ι s.heap ρ env→wpAny (model prog w) A (spliced (backTo pos (starEach args env))) (fun vs s₁=>wpAny (model prog w) A (call (primFn p) vs) Q E s₁) E s→wpAny (model prog w) A tree Q E s)
 (hbs:Bs prog B) (rm:Yj A k) (h1:Za prog w A B env (Uc Φ es) (spliced (backTo pos (starEach args env)))):G5 prog w A B env (evE Φ (.prim p es)) tree:=fun ι σ s ρ v σ' Q E R F e h=>by
 refine bnE e fun x e1 e=>?_;exact htree ι σ s ρ Q E R F (h1 ι σ s ρ x.1 x.2 _ _ R F e1 fun ι₁ s₁ us X q=>prim_snd hbs X.rel rm q e (h.later X))
theorem Y7{f:Value}{args:List (Bool×Sem Value)}{Q:Args→Shared→Prop}(hall:args.all (fun x=>!x.1)=true)(h:wpAny (model prog w) A (spliced args) (fun vs s'=>Q ⟨vs,[]⟩ s') E s):wpAny (model prog w) A (evalArgs f true args []) Q E s:=by
 cases args with
 |nil=>
  unfold evalArgs;show wpAny _ A (spliced [] >>= _) Q E s;refine Qt (wpAny_mono h (fun vs s' h'=>?_) fun _ _ x=>x);refine Qt (Qu ?_);refine wpAny_holding ?_;exact Qt (Qu (Qt (Qu (Qu h'))))
 |cons x rest=>
  obtain⟨b,t⟩:=x;simp only[List.all_cons,Qc]at hall;have hb:b=false:=by simpa using hall.1
  subst hb;exact Calls.evalArgs_plain h
theorem methName_slot(m:Meth):Slot "list" (methName m) (methId m)∧typeOf (.builtin (methId m))=pure (.type "method_descriptor"):=by
 cases m
 ·exact⟨F.slot_list_append,F.type_list_append⟩
 ·exact⟨F.slot_list_extend,F.type_list_extend⟩
 ·exact⟨F.slot_list_pop,F.type_list_pop⟩
 ·exact⟨F.slot_list_reverse,F.type_list_reverse⟩
 ·exact⟨F.slot_list_sort,F.type_list_sort⟩
theorem kind_1{n:Nat}(h:Yg σ (.loc n)=1):∃l,σ[n]?=some (.list l):=by
 unfold Yg at h;dsimp only at h;cases e:σ[n]? with
 |none=>rw[e]at h;cases h
 |some o=>
  rw[e]at h;cases o with
  |list l=>exact⟨l,rfl⟩
  |_=>cases h
theorem kind_2{n:Nat}(h:Yg σ (.loc n)=2):∃l,σ[n]?=some (.dict l):=by
 unfold Yg at h;dsimp only at h;cases e:σ[n]? with
 |none=>rw[e]at h;cases h
 |some o=>
  rw[e]at h;cases o with
  |dict l=>exact⟨l,rfl⟩
  |_=>cases h
theorem G5.meth{m:Meth}{o:Ex}{es:Exs}{oP:PySem.Expr}{args:List PySem.Expr}{apos pos:Pos}(hbs:Bs prog B)(rm:Yj A k)
 (hbase:attributeBase oP (methName m) env (eval oP env)=eval oP env)
 (hfew:((backTo pos (starEach args env)).all (fun x=>!x.1)&&(backToKw pos (keywordEach [] env)).all (fun x=>x.1.isSome)&&decide (args.length+([]:List Keyword).length+(if([]:List Keyword).isEmpty then 0 else 1)<30))=true)
 (hline:(apos.endLine==pos.line)=true)
 (h1:G5 prog w A B env (evE Φ o) (eval oP env)) (h2:Za prog w A B env (Uc Φ es) (spliced (backTo pos (starEach args env)))):
 G5 prog w A B env (evE Φ (.meth m o es)) (eval (.Call (.Attribute oP (methName m) apos) args [] pos) env):=fun ι σ s ρ v σ' Q E R F e h=>by
 have hall:(backTo pos (starEach args env)).all (fun x=>!x.1)=true:=by
  simp only[Qc]at hfew;exact hfew.1.1
 have hany:(backTo pos (starEach args env)).any (·.1)=false:=by
  rw[List.any_eq_false];intro x hx;have:=Ql hall x hx;simpa using this
 refine bnP e fun x σ₁ e1 e=>?_;refine bnP e fun vs σ₂ e2 e=>?_;refine zA2 (Gz e) fun hkind e=>?_;dsimp only at hkind e;refine bnE e fun n hn e'=>?_;refine bnE e' fun ob hs2 e'=>?_;obtain rfl:=asL_inv hn;clear e;refine wpAny_Call_method_lateS hbase hfew hline (h1 ι σ s ρ _ σ₁ _ _ R F e1 fun ι₁ s₁ u X r=>?_);have args2:∀id:String,(∀ι₂ s₂ us,Ext (prog:=prog) (w:=w) B ι₁ s₁ σ₂ ι₂ s₂→VsR s₂.heap ι₂ vs us→wpAny (model prog w) A (call (.builtin id) (u::us)) Q E s₂)→wpAny (model prog w) A (callWith pos (.builtin id) [u] (backTo pos (starEach args env)) []) Q E s₁:=fun id hid=>
  PySem.Calls.callWith_builtin hany (Y7 hall (h2 ι₁ σ₁ s₁ ρ vs σ₂ _ _ X.rel (F.ext' R X) e2 fun ι₂ s₂ us Y q=>hid ι₂ s₂ us Y q))
 obtain⟨a,rfl,ea⟩:=r.loc_ref;cases ob with
 |list l=>
  obtain⟨l1,hl1⟩:=kind_1 (hkind.trans (by unfold Yg;dsimp only;rw[hs2]));refine z22 (X.rel.obs n _ a hl1 ea) fun ws c ew qw=>?_;refine zA2 (methName_slot m) fun hslot hty=>?_;refine⟨"list",methId m,PySem.F.plainAttrs_list,hslot,hty,⟨_,ew,rfl⟩,fun b hb=>by cases hb;exact⟨_,ew,rfl⟩,args2 _ fun ι₂ s₂ us Y q=>?_⟩;exact meth_list_snd Y.rel hbs.two rm hs2 (r.ext X.rel Y) q e' (h.later (X.trans Y))
 |dict d=>
  obtain⟨l1,hl1⟩:=kind_2 (hkind.trans (by unfold Yg;dsimp only;rw[hs2]));obtain⟨Qy,⟨od,des,ep,hod,hcd,r3⟩,qq⟩:=X.rel.obs n _ a hl1 ea;cases m with
  |pop=>
   refine⟨"dict","dict.pop",PySem.F.plainAttrs_dict,PySem.F.slot_dict_pop,PySem.F.type_dict_pop,⟨_,hod,hcd.1⟩,fun b hb=>by cases hb;exact⟨_,hod,hcd.2.1⟩,args2 _ fun ι₂ s₂ us Y q=>?_⟩;exact dict_pop_snd hbs Y.rel rm hs2 (r.ext X.rel Y) q e' (h.later (X.trans Y))
  |_=>cases e'
 |_=>cases e'
noncomputable def All(P:Ex→PySem.Expr→Prop):Exs→List PySem.Expr→Prop
 |.nil,[]=>True
 |.cons x xs,e::es=>P x e∧All P xs es
 |_,_=>False
abbrev AllE(prog:Program)(w:World)(A:Around)(B:Bas)(env:Env)(Φ:Calls):=All fun x e=>G5 prog w A B env (evE Φ x) (eval e env)
abbrev AllC(prog:Program)(w:World)(A:Around)(B:Bas)(env:Env)(Φ:Calls):=All fun x e=>Y4 prog w A B env (evT (evE Φ x)) (isTrue e env (eval e env))
theorem boolAnd{pos:Pos}:∀(es:Exs) (elts:List PySem.Expr),AllE prog w A B env Φ es elts→G5 prog w A B env (evAnd Φ es) (boolOp pos .And (evalEach elts env))
 |.nil,_,_=>fun ι σ s ρ v σ' Q E R F e h=>by cases e
 |.cons x .nil,[],hA=>hA.elim
 |.cons x .nil,[e0],hA=>fun ι σ s ρ v σ' Q E R F e h=>by
  refine bnE e fun y e1 e=>?_;refine bnE e fun b hb e=>?_;obtain⟨rfl,rfl⟩:=si e;exact hA.1 ι σ s ρ _ _ Q E R F (by rw[e1,←asB_inv hb]) h
 |.cons x .nil,_::_::_,hA=>hA.2.elim
 |.cons x (.cons y ys),[],hA=>hA.elim
 |.cons x (.cons y ys),[_],hA=>hA.2.elim
 |.cons x (.cons y ys),e0::e1::es,hA=>fun ι σ s ρ v σ' Q E R F e h=>by
  have ih:=boolAnd (pos:=pos) (.cons y ys) (e1::es) hA.2;show wpAny _ _ (eval e0 env >>= fun v=>_) _ _ _;refine bnE e fun p e2 e=>?_;rcases tst_inv e with⟨hb,e⟩|⟨hb,e⟩
  ·refine Qt (hA.1 ι σ s ρ p.1 p.2 _ _ R F e2 fun ι₁ s₁ u X r=>?_);rw[hb]at r;obtain rfl:=r.bool_inv;refine Qt (wpAny_standAt (Qt (wpAny_holding (wpAny_truthy_bool ?_))));exact ih ι₁ p.2 s₁ ρ v σ' Q E X.rel (F.ext' R X) e (h.later X)
  ·have h:=h.si e;refine Qt (hA.1 ι σ s ρ p.1 p.2 _ _ R F e2 fun ι₁ s₁ u X r=>?_);rw[hb]at r;obtain rfl:=r.bool_inv;refine Qt (wpAny_standAt (Qt (wpAny_holding (wpAny_truthy_bool ?_))));exact Qu (h _ _ _ X (.bool false))
theorem boolOr{pos:Pos}:∀(es:Exs) (elts:List PySem.Expr),AllE prog w A B env Φ es elts→G5 prog w A B env (evOr Φ es) (boolOp pos .Or (evalEach elts env))
 |.nil,_,_=>fun ι σ s ρ v σ' Q E R F e h=>by cases e
 |.cons x .nil,[],hA=>hA.elim
 |.cons x .nil,[e0],hA=>fun ι σ s ρ v σ' Q E R F e h=>by
  refine bnE e fun y e1 e=>?_;refine bnE e fun b hb e=>?_;obtain⟨rfl,rfl⟩:=si e;exact hA.1 ι σ s ρ _ _ Q E R F (by rw[e1,←asB_inv hb]) h
 |.cons x .nil,_::_::_,hA=>hA.2.elim
 |.cons x (.cons y ys),[],hA=>hA.elim
 |.cons x (.cons y ys),[_],hA=>hA.2.elim
 |.cons x (.cons y ys),e0::e1::es,hA=>fun ι σ s ρ v σ' Q E R F e h=>by
  have ih:=boolOr (pos:=pos) (.cons y ys) (e1::es) hA.2;show wpAny _ _ (eval e0 env >>= fun v=>_) _ _ _;refine bnE e fun p e2 e=>?_;rcases tst_inv e with⟨hb,e⟩|⟨hb,e⟩
  ·have h:=h.si e;refine Qt (hA.1 ι σ s ρ p.1 p.2 _ _ R F e2 fun ι₁ s₁ u X r=>?_);rw[hb]at r;obtain rfl:=r.bool_inv;refine Qt (wpAny_standAt (Qt (wpAny_holding (wpAny_truthy_bool ?_))));exact Qu (h _ _ _ X (.bool true))
  ·refine Qt (hA.1 ι σ s ρ p.1 p.2 _ _ R F e2 fun ι₁ s₁ u X r=>?_);rw[hb]at r;obtain rfl:=r.bool_inv;refine Qt (wpAny_standAt (Qt (wpAny_holding (wpAny_truthy_bool ?_))));exact ih ι₁ p.2 s₁ ρ v σ' Q E X.rel (F.ext' R X) e (h.later X)
theorem G5.and{es:Exs}{elts:List PySem.Expr}{pos:Pos}(h:AllE prog w A B env Φ es elts):G5 prog w A B env (evE Φ (.and es)) (eval (.BoolOp .And elts pos) env):=boolAnd (pos:=pos) es elts h
theorem G5.or{es:Exs}{elts:List PySem.Expr}{pos:Pos}(h:AllE prog w A B env Φ es elts):G5 prog w A B env (evE Φ (.or es)) (eval (.BoolOp .Or elts pos) env):=boolOr (pos:=pos) es elts h
theorem Y4.value{x:Ex}{e0:PySem.Expr}{whole:Sem Value}(he:isTrue e0 env whole=(do let v ←whole;standAt e0.pos;holding [v] (truthy v)))(h1:G5 prog w A B env (evE Φ x) whole):Y4 prog w A B env (evT (evE Φ x)) (isTrue e0 env whole):=fun ι σ s ρ b σ' Q E R F e h=>by
 refine wpAny_isTrue_value (h1 ι σ s ρ _ _ _ _ R F (evT_inv e) fun ι₁ s₁ u X r=>?_) he;obtain rfl:=r.bool_inv;exact wpAny_truthy_bool (h _ _ X)
theorem Y4.not{x:Ex}{e0:PySem.Expr}{pos:Pos}{whole:Sem Value}(h1:Y4 prog w A B env (evT (evE Φ x)) (isTrue e0 env (eval e0 env))):Y4 prog w A B env (evT (evE Φ (.not x))) (isTrue (.UnaryOp .Not e0 pos) env whole):=fun ι σ s ρ b σ' Q E R F e h=>by
 refine bnE (evT_inv e) fun x e1 e=>?_;refine bnE e fun c hc e=>?_;obtain⟨hb,rfl⟩:=si e;cases hb;exact wpAny_isTrue_Not (h1 ι σ s ρ c x.2 _ _ R F (Yn e1 (asB_inv hc)) fun ι₁ s₁ X=>h _ _ X)
theorem allAnd:∀(es:Exs) (elts:List PySem.Expr),AllC prog w A B env Φ es elts→Y4 prog w A B env (evT (evAnd Φ es)) (allTrue .And elts env)
 |.nil,_,_=>fun ι σ s ρ v σ' Q E R F e h=>by cases e
 |.cons x .nil,[],hA=>hA.elim
 |.cons x .nil,[e0],hA=>fun ι σ s ρ v σ' Q E R F e h=>by
  have e':evT (evE Φ x) ρ σ=some (v,σ'):=by
   refine bnE (evT_inv e) fun y e1 e=>?_;refine bnE e fun b hb e=>?_;obtain⟨hv,rfl⟩:=si e;cases hv;exact Yn e1 (asB_inv hb)
  refine wpAny_allTrue_And_cons (hA.1 ι σ s ρ v σ' _ _ R F e' fun ι₁ s₁ X=>?_);cases v with
  |true=>exact wpAny_allTrue_And_nil (h _ _ X)
  |false=>exact h _ _ X
 |.cons x .nil,_::_::_,hA=>hA.2.elim
 |.cons x (.cons y ys),[],hA=>hA.elim
 |.cons x (.cons y ys),e0::es,hA=>fun ι σ s ρ v σ' Q E R F e h=>by
  have ih:=allAnd (.cons y ys) es hA.2;refine bnE (evT_inv e) fun p e1 e=>?_;rcases tst_inv e with⟨hb,e⟩|⟨hb,e⟩
  ·refine wpAny_allTrue_And_cons (hA.1 ι σ s ρ true p.2 _ _ R F (Yn e1 hb) fun ι₁ s₁ X=>?_);exact ih ι₁ p.2 s₁ ρ v σ' Q E X.rel (F.ext' R X) (Yn (b:=v) e rfl) fun ι₂ s₂ Y=>h _ _ (X.trans Y)
  ·refine wpAny_allTrue_And_cons (hA.1 ι σ s ρ false p.2 _ _ R F (Yn e1 hb) fun ι₁ s₁ X=>?_);obtain⟨hv,rfl⟩:=si e;cases hv;exact h _ _ X
theorem allOr:∀(es:Exs) (elts:List PySem.Expr),AllC prog w A B env Φ es elts→Y4 prog w A B env (evT (evOr Φ es)) (allTrue .Or elts env)
 |.nil,_,_=>fun ι σ s ρ v σ' Q E R F e h=>by cases e
 |.cons x .nil,[],hA=>hA.elim
 |.cons x .nil,[e0],hA=>fun ι σ s ρ v σ' Q E R F e h=>by
  have e':evT (evE Φ x) ρ σ=some (v,σ'):=by
   refine bnE (evT_inv e) fun y e1 e=>?_;refine bnE e fun b hb e=>?_;obtain⟨hv,rfl⟩:=si e;cases hv;exact Yn e1 (asB_inv hb)
  refine wpAny_allTrue_Or_cons (hA.1 ι σ s ρ v σ' _ _ R F e' fun ι₁ s₁ X=>?_);cases v with
  |false=>exact wpAny_allTrue_Or_nil (h _ _ X)
  |true=>exact h _ _ X
 |.cons x .nil,_::_::_,hA=>hA.2.elim
 |.cons x (.cons y ys),[],hA=>hA.elim
 |.cons x (.cons y ys),e0::es,hA=>fun ι σ s ρ v σ' Q E R F e h=>by
  have ih:=allOr (.cons y ys) es hA.2;refine bnE (evT_inv e) fun p e1 e=>?_;rcases tst_inv e with⟨hb,e⟩|⟨hb,e⟩
  ·refine wpAny_allTrue_Or_cons (hA.1 ι σ s ρ true p.2 _ _ R F (Yn e1 hb) fun ι₁ s₁ X=>?_);obtain⟨hv,rfl⟩:=si e;cases hv;exact h _ _ X
  ·refine wpAny_allTrue_Or_cons (hA.1 ι σ s ρ false p.2 _ _ R F (Yn e1 hb) fun ι₁ s₁ X=>?_);exact ih ι₁ p.2 s₁ ρ v σ' Q E X.rel (F.ext' R X) (Yn (b:=v) e rfl) fun ι₂ s₂ Y=>h _ _ (X.trans Y)
theorem Y4.and{es:Exs}{elts:List PySem.Expr}{pos:Pos}{whole:Sem Value}(h:AllC prog w A B env Φ es elts):Y4 prog w A B env (evT (evE Φ (.and es))) (isTrue (.BoolOp .And elts pos) env whole):=fun ι σ s ρ b σ' Q E R F e hQ=>
 wpAny_isTrue_BoolOp (allAnd es elts h ι σ s ρ b σ' Q E R F e hQ)
theorem Y4.or{es:Exs}{elts:List PySem.Expr}{pos:Pos}{whole:Sem Value}(h:AllC prog w A B env Φ es elts):Y4 prog w A B env (evT (evE Φ (.or es))) (isTrue (.BoolOp .Or elts pos) env whole):=fun ι σ s ρ b σ' Q E R F e hQ=>
 wpAny_isTrue_BoolOp (allOr es elts h ι σ s ρ b σ' Q E R F e hQ)
theorem Y4.noTest:Y4 prog w A B env (evC Φ .no) (tests [] env):=fun ι σ s ρ b σ' Q E R F e hQ=>by
 obtain⟨rfl,rfl⟩:=si e;exact Qu (hQ ι s (Gs.refl R))
theorem Y4.oneTest{c:Ex}{cP:PySem.Expr}(h:Y4 prog w A B env (evT (evE Φ c)) (isTrue cP env (eval cP env))):Y4 prog w A B env (evC Φ (.yes c)) (tests [cP] env):=fun ι σ s ρ b σ' Q E R F e hQ=>by
 exact wpAny_tests_one (h ι σ s ρ b σ' Q E R F e hQ)
theorem J8.asg{N:Nat}{x:Nat}{y:Ex}{eP:PySem.Expr}{p pos:Pos}(h1:G5 prog w A B env (evE Φ y) (eval eP env))(hc:Y9 env x)(hs:swapsWith eP (some (.Name (nm x) p)) pos.line env=pure false):J8 prog w A B env (exS Φ N (.asg x y)) (exec (.Assign [.Name (nm x) p] eP pos) env):=fun ι σ s ρ fl ρ' σ' Q E R F e h=>by
 refine cps fun qG qK=>?_;refine bnE e fun x e1 e=>?_;obtain⟨rfl,rfl,rfl⟩:=si3 e;refine qK ?_;refine wpAny_Assign_Name (h1 ι σ s ρ x.1 x.2 _ _ R F e1 fun ι₁ s₁ u X r=>?_) hs;exact(F.ext' R X).store X.rel hc r fun s₂ Y F₂=>h _ _ _ (X.weak.trans Y) F₂ .next
theorem Uf(slice:PySem.Expr)(o i:Value):∃ops,subscripted slice false o i=operate ops (getItem o i):=by
 unfold subscripted;split
 ·exact⟨_,rfl⟩
 ·rename_i h;cases h
 ·exact⟨_,rfl⟩
theorem J8.asgS{N:Nat}{a i y:Ex}{aP iP eP:PySem.Expr}{p pos:Pos}(rm:Yj A k)(h1:G5 prog w A B env (evE Φ y) (eval eP env))(h2:G5 prog w A B env (evE Φ a) (eval aP env))(h3:G5 prog w A B env (evE Φ i) (eval iP env))(hs:swapsWith eP (some (.Subscript aP iP p)) pos.line env=pure false):
 J8 prog w A B env (exS Φ N (.asgS a i y)) (exec (.Assign [.Subscript aP iP p] eP pos) env):=fun ι σ s ρ fl ρ' σ' Q E R F e h=>by
 refine cps fun qG qK=>?_;refine bnE e fun v e1 e=>?_;refine bnE e fun x e2 e=>?_;refine bnE e fun j e3 e=>?_;refine bnE e fun σ₄ e4 e=>?_;obtain⟨rfl,rfl,rfl⟩:=si3 e;refine qK ?_;refine wpAny_Assign_Subscript (h1 ι σ s ρ v.1 v.2 _ _ R F e1 fun ι₁ s₁ u X r=>h2 ι₁ v.2 s₁ ρ x.1 x.2 _ _ X.rel (F.ext' R X) e2 fun ι₂ s₂ ua Y ra=>h3 ι₂ x.2 s₂ ρ j.1 j.2 _ _ Y.rel ((F.ext' R X).ext' X.rel Y) e3 fun ι₃ s₃ ui Z ri=>?_) hs;refine setop_snd Z.rel rm e4 (ra.ext Y.rel Z) ri (r.ext X.rel (Y.trans Z)) fun s₄ W=>?_;have XX:=X.trans (Y.trans (Z.trans W));exact h _ _ _ XX.weak (F.ext' R XX) .next
theorem J8.aug{N:Nat}{x:Nat}{y:Ex}{eP:PySem.Expr}{p pos:Pos}(hk:env.kindOf (nm x)=some .local∨env.kindOf (nm x)=some .cell∨env.kindOf (nm x)=some .free)(hc:Y9 env x)(h1:G5 prog w A B env (evE Φ y) (eval eP env)):
 J8 prog w A B env (exS Φ N (.aug x y)) (exec (.AugAssign (.Name (nm x) p) .Add eP pos) env):=fun ι σ s ρ fl ρ' σ' Q E R F e h=>by
 refine bnE e fun a' ha e=>?_;refine bnE e fun a hi e=>?_;refine bnE e fun b' e1 e=>?_;refine bnE e fun b hj e=>?_;obtain⟨rfl,rfl,rfl⟩:=si3 e;refine wpAny_AugAssign_Name (F.load ha hk fun u r=>?_);rw[Yd hi]at r;refine VR.intE r fun t=>?_;refine h1 ι σ s ρ _ b'.2 _ _ R F e1 fun ι₁ s₁ u' X r'=>?_;rw[Yd hj]at r';refine VR.intE r' fun t'=>?_;refine AutoIntOps.iadd_0 ?_;have X2:=X.trans (Gs.tok (own:=fun _=>False) X.rel (s₁.toks+1));have F2:=F.ext' R X2;exact F2.store X2.rel hc (.int (a+b) _) fun s₂ Y F₂=>h _ _ _ (X2.weak.trans Y) F₂ .next
theorem G5.dict0{pos:Pos}:G5 prog w A B env (evE Φ .dict0) (eval (.Dict [] [] pos) env):=fun ι σ s ρ v σ' Q E R F e h=>by
 have h:=h.si e;have fin:Q (.ref s.heap.objs.size) {s with heap:=s.heap.push dobj}:=by
  refine h (ι++[s.heap.objs.size]) _ _ (Ext.push (t:=s.toks) R (U3 _) (G2 _ _) ?_) (.loc (by rw[←R.len];simp));exact⟨[],dobj_dict (Qv _ rfl),.nil⟩
 rw[arm_eval_Dict];refine Qt (wpAny_standAt ?_);show wpAny _ _ (dictDisplay []) _ _ _;unfold dictDisplay
 first
  |exact wpAny_newObj_type fin (by size_fits)
  |(refine Qt (wpAny_newObj_type ?_ (by size_fits));exact Qt (Qu (Qu fin)))
noncomputable def PartR(h:Heap)(ι:List Addr)(o:Option V)(u:Value):Prop:=(∀y,o=some y→VR h ι y u)∧(o=none→u=.none)
theorem PartR.ext{σ':Sto}{ι':List Addr}{s':Shared}{o:Option V}{u:Value}(r:PartR s.heap ι o u)(R:Rel prog w B σ ι s.heap)(X:Ext (prog:=prog) (w:=w) B ι s σ' ι' s'):PartR s'.heap ι' o u:=⟨fun y e=>(r.1 y e).ext R X,r.2⟩
noncomputable def SndO(prog:Program)(w:World)(A:Around)(B:Bas)(env:Env)(ev:Fr→Sto→Option (Option V×Sto))(t:Sem Value):Prop:=
 ∀(ι:List Addr) (σ:Sto) (s:Shared) (ρ:Fr) (v:Option V) (σ':Sto) (Q:Value→Shared→Prop) (E:Value→Shared→Prop),Rel prog w B σ ι s.heap→FrR B ι s.heap ρ env→ev ρ σ=some (v,σ')→
  (∀ι' s' u,Ext (prog:=prog) (w:=w) B ι s σ' ι' s'→PartR s'.heap ι' v u→Q u s')→wpAny (model prog w) A t Q E s
theorem SndO.no:SndO prog w A B env (evO Φ .no) (evalPart none env):=fun ι σ s ρ v σ' Q E R F e h=>by
 obtain⟨rfl,rfl⟩:=si e;exact Qu (h ι s _ (Gs.refl R) ⟨fun y e=>(by cases e),fun _=>rfl⟩)
theorem SndO.yes{x:Ex}{eP:PySem.Expr}(h1:G5 prog w A B env (evE Φ x) (eval eP env)):SndO prog w A B env (evO Φ (.yes x)) (evalPart (some eP) env):=fun ι σ s ρ v σ' Q E R F e h=>by
 refine bnE e fun x e1 e=>?_;obtain⟨rfl,rfl⟩:=si e;exact h1 ι σ s ρ x.1 x.2 _ _ R F e1 fun ι₁ s₁ u X r=>h _ _ _ X ⟨fun z hz=>(by cases hz;exact r),fun hn=>(by cases hn)⟩
theorem G5.slice{a:Ex}{lo hi:Opt}{aP:PySem.Expr}{loP hiP:Option PySem.Expr}{p pos:Pos}(h1:G5 prog w A B env (evE Φ a) (eval aP env))(h2:SndO prog w A B env (evO Φ lo) (evalPart loP env))(h3:SndO prog w A B env (evO Φ hi) (evalPart hiP env)):
 G5 prog w A B env (evE Φ (.slice a lo hi)) (eval (.Subscript aP (.Slice loP hiP Option.none p) pos) env):=fun ι σ s ρ v σ' Q E R F e h=>by
 refine cps fun qG qK=>?_;refine bnP e fun x σ₁ e1 e=>?_;refine bnP e fun l σ₂ e2 e=>?_;refine bnP e fun hh σ₃ e3 e=>?_;refine qK ?_;refine Subscript_ (h1 ι σ s ρ x σ₁ _ _ R F e1 fun ι₁ s₁ u X r=>wpAny_Slice (h2 ι₁ σ₁ s₁ ρ l σ₂ _ _ X.rel (F.ext' R X) e2 fun ι₂ s₂ ul Y rl=>h3 ι₂ σ₂ s₂ ρ hh σ₃ _ _ Y.rel ((F.ext' R X).ext' X.rel Y) e3 fun ι₃ s₃ uh Z rh=>Qu ?_));have W:Ext (prog:=prog) (w:=w) B ι₃ s₃ σ₃ ι₃ {s₃ with heap:=s₃.heap.push {cls:=.type "slice",data:=.fields #[ul,uh,.none]},toks:=s₃.toks}:=Ext.grown Z.rel (G2 _ _);have rl':=(rl.ext Y.rel Z).ext Z.rel W;have rh':=rh.ext Z.rel W;have rx:=(r.ext X.rel (Y.trans Z)).ext Z.rel W;obtain⟨ops,hops⟩:=Uf (.Slice loP hiP Option.none p) u (.ref s₃.heap.objs.size);exact sliceop_snd (s:={s₃ with heap:=s₃.heap.push {cls:=.type "slice",data:=.fields #[ul,uh,.none]}}) W.rel e rx ⟨_,Qv _ rfl,rfl,rfl⟩ rl'.1 rl'.2 rh'.1 rh'.2 hops (h.later (X.trans (Y.trans (Z.trans W))))
theorem G5.rev{a:Ex}{aP:PySem.Expr}{kk:Nat}{p p1 p2 pos:Pos}(h1:G5 prog w A B env (evE Φ a) (eval aP env)):
 G5 prog w A B env (evE Φ (.rev a)) (eval (.Subscript aP (.Slice Option.none Option.none (some (.UnaryOp .USub (.Constant (.int 1) kk p1) p2)) p) pos) env):=fun ι σ s ρ v σ' Q E R F e h=>by
 refine bnP e fun x σ₁ e1 e=>?_;refine bnE e fun l hl e=>?_;obtain rfl:=Yu hl;obtain⟨hlim,e⟩:=Gz e;have h:=h.si e;have hlim:l.length<100000:=hlim;refine Subscript_ (h1 ι σ s ρ _ σ₁ _ _ R F e1 fun ι₁ s₁ u X r=>wpAny_Slice (Qu (Qu ?_)));rw[evalPart_some];refine wpAny_UnaryOp (wpAny_Constant_int (PySem.P.neg_int ?_));refine VR.tupE r fun a1 vs n ev q _=>?_;have W:Ext (prog:=prog) (w:=w) B ι₁ s₁ σ₁ ι₁ {s₁ with heap:=s₁.heap.push {cls:=.type "slice",data:=.fields #[.none,.none,.int (-1) (s₁.toks+1)]},toks:=s₁.toks+1+1}:=Ext.grown X.rel (G2 _ _);have hsz:=J6 q;have ev2:(s₁.heap.push {cls:=.type "slice",data:=.fields #[.none,.none,.int (-1) (s₁.toks+1)]}).get? a1=some (G4 vs n):=G2 _ _ _ _ ev;obtain⟨ops,hops⟩:=Uf (.Slice Option.none Option.none (some (.UnaryOp .USub (.Constant (.int 1) kk p1) p2)) p) (.ref a1) (.ref s₁.heap.objs.size);refine tail_any (s:={s₁ with heap:=s₁.heap.push {cls:=.type "slice",data:=.fields #[.none,.none,.int (-1) (s₁.toks+1)]},toks:=s₁.toks+1+1}) (T:= "tuple") ⟨_,ev2,rfl⟩ PySem.F.slot_tuple_getitem.lookup ?_ hops;refine getItem_tuple_rev (s:={s₁ with heap:=s₁.heap.push {cls:=.type "slice",data:=.fields #[.none,.none,.int (-1) (s₁.toks+1)]},toks:=s₁.toks+1+1}) ev2 ⟨_,Qv _ rfl,rfl,rfl⟩ ?_ (by unfold sizeLine;exact Gh (G6 _ _) 1 (.var 0) (.num 16777216) [Ge 1 (.var 1) (.num 100000),Gp 1 (.var 0) (.var 1)] rfl hlim hsz);refine(h.later (X.trans W)).tup (t:=s₁.toks+1+1) (n:=0) (vs:=vs.toList.reverse.toArray) W.rel ?_;rw[List.toList_toArray];exact(q.ext X.rel W).reverse
end
noncomputable def primNm:Prim→Str
 |.len=>Str.ofString "len" |.sum=>Str.ofString "sum" |.max=>Str.ofString "max" |.min=>Str.ofString "min" |.abs=>Str.ofString "abs" |.any=>Str.ofString "any" |.sorted=>Str.ofString "sorted"
 |.tuple=>Str.ofString "tuple" |.dict=>Str.ofString "dict" |.int=>Str.ofString "int"
noncomputable def primVal:Prim→Value
 |.len=>.builtin "len" |.sum=>.builtin "sum" |.max=>.builtin "max" |.min=>.builtin "min" |.abs=>.builtin "abs" |.any=>.builtin "any" |.sorted=>.builtin "sorted"
 |.tuple=>.type "tuple" |.dict=>.type "dict" |.int=>.type "int"
noncomputable def rangeNm:Str:=Str.ofString "range"
noncomputable def enumNm:Str:=Str.ofString "enumerate"
structure Gl(B:Bas):Prop where
 names:∃(H:Heap) (mg mb:Str→Option Value),(∀a o,H.get? a=some o→B.get? a=some o)∧H.Ns mainGlobals mg∧H.Ns builtinsNs mb∧
  (∀p,mg (primNm p)=none∧mb (primNm p)=some (primVal p))∧(mg rangeNm=none∧mb rangeNm=some (.type "range"))∧(mg enumNm=none∧mb enumNm=some (.type "enumerate"))∧
  (∀g v,glob g=some v→∃u,mg (gnm g)=some u∧VR H [] v u)
section
variable{prog:Program}{w:World}{A:Around}{E:Value→Shared→Prop}{B:Bas}{σ:Sto}{ι:List Addr}{s:Shared}{k:Nat}{env:Env}{Φ:Calls}
theorem Gl.raise{B':Bas}(G:Gl B)(hle:B.le B'):Gl B':=let⟨H,mg,mb,h1,r⟩:=G.names;⟨H,mg,mb,fun a o e=>hle _ _ (h1 a o e),r⟩
theorem G5.glob{g:Nat}{pos:Pos}(G:Gl B)(hk:env.kindOf (gnm g)=some .globalImplicit)(hd:(gnm g==("__debug__" :Str))=false):G5 prog w A B env (evE Φ (.glob g)) (eval (.Name (gnm g) pos) env):=fun ι σ s ρ v σ' Q E R F e h=>by
 refine cps fun qG qK=>?_;refine bnE e fun v' hv e=>?_;have h:=h.si e;obtain⟨H,mg,mb,h1,h2,h3,h4,h5,h6,h7⟩:=G.names;refine z12 (h7 g _ hv) fun u hu r=>?_;refine qK ?_;refine PySem.Calls.Name_function_global F.ok.kind hk ?_ hd;refine PySem.Calls.loadGlobal_global (by rw[F.ok.glob];exact h2.keeps fun a o e=>R.base a o (h1 a o e)) hu (h.here R ?_);exact r.mono (fun a vs n e=>R.base _ _ (h1 _ _ e)) (List.nil_prefix)
theorem load_blt{nmP:Str}{pos:Pos}{f:Value}{ρ:Fr}{Q:Value→Shared→Prop}(hk:env.kindOf nmP=some .globalImplicit)(hd:(nmP==("__debug__" :Str))=false)(R:Rel prog w B σ ι s.heap)(F:FrR B ι s.heap ρ env)
 {H:Heap} {mg mb:Str→Option Value} (h1:∀a o,H.get? a=some o→B.get? a=some o) (h2:H.Ns mainGlobals mg) (h3:H.Ns builtinsNs mb) (hmiss:mg nmP=none) (hv:mb nmP=some f) (h:Q f s):wpAny (model prog w) A (eval (.Name nmP pos) env) Q E s:=by
 refine PySem.Calls.Name_function_global F.ok.kind hk ?_ hd;exact PySem.Calls.loadGlobal_builtin (by rw[F.ok.glob];exact h2.keeps fun a o e=>R.base a o (h1 a o e)) hmiss (by rw[F.ok.blt];exact h3.keeps fun a o e=>R.base a o (h1 a o e)) hv h
theorem G5.primCall{p:Prim}{es:Exs}{args:List PySem.Expr}{p1 pos:Pos}(G:Gl B)(hbs:Bs prog B)(rm:Yj A k)(hk:env.kindOf (primNm p)=some .globalImplicit)(hall:(backTo pos (starEach args env)).all (fun x=>!x.1)=true)
 (h1:Za prog w A B env (Uc Φ es) (spliced (backTo pos (starEach args env)))):G5 prog w A B env (evE Φ (.prim p es)) (eval (.Call (.Name (primNm p) p1) args [] pos) env):=by
 have hany:(backTo pos (starEach args env)).any (·.1)=false:=by
  rw[List.any_eq_false];intro x hx;have:=Ql hall x hx;simpa using this
 refine G5.prim (f:=.Name (primNm p) p1) (pos:=pos) (args:=args) (fun ι σ s ρ Q E R F h=>?_) hbs rm h1;obtain⟨H,mg,mb,g1,g2,g3,g4,g5,g6,g7⟩:=G.names;refine wpAny_Call_NameR (load_blt hk (by cases p<;>decide) R F g1 g2 g3 (g4 p).1 (g4 p).2 ?_);have hsp:wpAny (model prog w) A (spliced (backTo pos (starEach args env))) (fun vs s₁=>wpAny (model prog w) A (call (primVal p) vs) Q E s₁) E s:=by
  cases p<;>exact h
 cases p
 all_goals first
  |exact PySem.Calls.callWith_builtin hany (Y7 hall hsp)
  |exact PySem.callWith_type hany (Y7 hall hsp)
theorem Um.range{x:Ex}{eP:PySem.Expr}{p1 pos:Pos}(G:Gl B)(hk:env.kindOf rangeNm=some .globalImplicit)(hst:starEach [eP] env=[(false,eval eP env)])(h1:G5 prog w A B env (evE Φ x) (eval eP env)):
 Um prog w A B env .range false (evE Φ x) (eval (.Call (.Name rangeNm p1) [eP] [] pos) env):=fun ι σ s ρ v σ₁ src σ₂ Q E R F e hm hQ=>by
 refine cps fun qG qK=>?_;obtain⟨H,mg,mb,g1,g2,g3,g4,g5,g6,g7⟩:=G.names;refine qK ?_;refine wpAny_Call_NameR (load_blt hk (by decide) R F g1 g2 g3 g5.1 g5.2 ?_);rw[hst];show wpAny _ _ (callWith pos (.type "range") [] [(false,eval eP env)] []) _ _ _;refine PySem.callWith_type rfl (Y7 rfl (PySem.Calls.spliced_cons (h1 ι σ s ρ v σ₁ _ _ R F e fun ι₁ s₁ u X r=>PySem.Calls.spliced_nil ?_)));exact src_range X.rel r hm fun B' I s' fp wr St S=>hQ ι₁ s₁ B' I s' fp wr St X S
theorem Um.enum{x:Ex}{eP:PySem.Expr}{p1 pos:Pos}(G:Gl B)(hB:∃o,B.get? sysModules=some o)(hk:env.kindOf enumNm=some .globalImplicit)(hst:starEach [eP] env=[(false,eval eP env)])(h1:G5 prog w A B env (evE Φ x) (eval eP env)):
 Um prog w A B env .enum true (evE Φ x) (eval (.Call (.Name enumNm p1) [eP] [] pos) env):=fun ι σ s ρ v σ₁ src σ₂ Q E R F e hm hQ=>by
 refine cps fun qG qK=>?_;obtain⟨H,mg,mb,g1,g2,g3,g4,g5,g6,g7⟩:=G.names;refine qK ?_;refine wpAny_Call_NameR (load_blt hk (by decide) R F g1 g2 g3 g6.1 g6.2 ?_);rw[hst];show wpAny _ _ (callWith pos (.type "enumerate") [] [(false,eval eP env)] []) _ _ _;refine PySem.callWith_type rfl (Y7 rfl (PySem.Calls.spliced_cons (h1 ι σ s ρ v σ₁ _ _ R F e fun ι₁ s₁ u X r=>PySem.Calls.spliced_nil ?_)));exact src_enum X.rel hB r hm fun B' I s' fp wr St S=>hQ ι₁ s₁ B' I s' fp wr St X S
theorem Um.items{x:Ex}{oP:PySem.Expr}{apos pos:Pos}(hB:∃o,B.get? sysModules=some o)(hbase:attributeBase oP (Str.ofString "items") env (eval oP env)=eval oP env)(hline:(apos.endLine==pos.line)=true)(h1:G5 prog w A B env (evE Φ x) (eval oP env)):
 Um prog w A B env .items true (evE Φ x) (eval (.Call (.Attribute oP (Str.ofString "items") apos) [] [] pos) env):=fun ι σ s ρ v σ₁ src σ₂ Q E R F e hm hQ=>by
 refine wpAny_Call_method_lateS hbase rfl hline (h1 ι σ s ρ v σ₁ _ _ R F e fun ι₁ s₁ u X r=>?_);have hv:∃n es,v=.loc n∧σ₁[n]?=some (.dict es):=by
  unfold Gx at hm;split at hm
  all_goals first|(rename_i h _;cases h;done)|(rename_i h;cases h;done)|skip
  ·rename_i n _;split at hm
   ·rename_i es hl;exact⟨n,es,rfl,hl⟩
   ·cases hm
  all_goals cases hm
 refine cps fun qG qK=>?_;obtain⟨n,es,rfl,hl⟩:=hv;obtain⟨a,rfl,ea⟩:=r.loc_ref;obtain⟨Qy,⟨od,des,ep,hod,hcd,r3⟩,qq⟩:=X.rel.obs n _ a hl ea;refine qK ?_;refine⟨"dict","dict.items",PySem.F.plainAttrs_dict,PySem.F.slot_dict_items,PySem.F.type_dict_items,⟨_,hod,hcd.1⟩,fun b hb=>by cases hb;exact⟨_,hod,hcd.2.1⟩,?_⟩;refine PySem.Calls.callWith_builtin rfl (Y7 rfl (PySem.Calls.spliced_nil ?_));exact src_items X.rel hB r hm fun B' I s' fp wr St S=>hQ ι₁ s₁ B' I s' fp wr St X S
theorem J8.asgL{N:Nat}{y:Nat}{elt it:Ex}{t:Tg}{kd:ItK}{cond:Opt}{many:Bool}{eltP target iter:PySem.Expr}{ifs:List PySem.Expr}{scope:Scope}{py pos spos:Pos}
 (hh:A.handled=none) (hsw:swapsWith (.ListComp eltP [⟨target,iter,ifs,0⟩] scope pos) (some (.Name (nm y) py)) spos.line env=pure true) (hy:y<56∧env.kindOf (nm y)=some .local)
 (hsrc:Um prog w A B env kd many (evE Φ it) (eval iter env)) (hm:mTg t target=true) (hmany:many=true→Z6 target=true) (ok:Yh env scope t.vars) (hfold:∀x,foldedSetIterable iter env x=pure x)
 (hc:∀B',B.le B'→∀C,Y4 prog w A B' (Gc scope env C) (evC Φ cond) (tests ifs (Gc scope env C))) (he:∀B',B.le B'→∀C,G5 prog w A B' (Gc scope env C) (evE Φ elt) (eval eltP (Gc scope env C))):
 J8 prog w A B env (exS Φ N (.asg y (.lcomp elt t kd it cond))) (exec (.Assign [.Name (nm y) py] (.ListComp eltP [⟨target,iter,ifs,0⟩] scope pos) spos) env):=fun ι σ s ρ fl ρ' σ' Q E R F e h=>by
 refine cps fun qG qK=>?_;refine bnE e fun p0 e0 e=>?_;obtain⟨rfl,rfl,rfl⟩:=si3 e;refine bnP e0 fun v₁ σ₁ hit e0=>?_;refine bnP e0 fun src σ₂ hmk e0=>?_;refine bnP e0 fun acc σ₃ hl e0=>?_;refine qK ?_;cases e0;rw[exec_Assign_Name_used _ _ _ _ hsw];refine Qt (wpAny_standAt (Qt ?_));show wpAny _ A (do let _ ←comprehension (.ListComp eltP [⟨target,iter,ifs,0⟩] scope pos) scope env (firstIterPos [⟨target,iter,ifs,0⟩] pos) (newList []) false (eval iter env) (some (assign (.Name (nm y) py) env))) _ _ s;refine Qt (wpAny_mono (wpAny_comprehension_free (use:=some (assign (.Name (nm y) py) env)) (Q:=fun _ s'=>Q .next s') rfl hfold (Jw fun n hn=>Option.isSome_iff_exists.mp (ok.free n hn).2) ok.kind ok.names ?_) (fun _ s' hq=>Qu (Qu hq)) fun _ _ e=>e);refine hsrc ι σ s ρ v₁ σ₁ src σ₂ _ _ R F hit hmk fun ι₁ s₁ B' I s' fp wr St X S=>?_;refine lcomp_core hh S X.rel (F.ext' R X) hm hmany ok (hc B' S.le) (he B' S.le) hl fun ι' s₂ C D m Y r hn hC hC0=>?_;show wpAny _ A (assign (.Name (nm y) py) env (.ref D)) _ _ _;have XY:=X.trans Y;have F₂:=F.ext' R XY;refine wpAny_assign_Name (F₂.store XY.rel ⟨hy.1,.inl hy.2⟩ r fun s₃ Z F₃=>?_);have hCo:¬own env C:=fun ho=>by
  refine z11 ((F.ext' R X).ownLive C ho) fun o ho'=>?_;rw[hC0]at ho';cases ho'
 have hn₃:s₃.heap.Ns C m:=by
  refine z32 hn fun o es ep e' r'=>?_;exact⟨o,es,ep,Z.keep C o e' hC hCo,r'⟩
 refine⟨m,hn₃,fun h' hs=>?_⟩;have hnt:∀vs n,s₃.heap.get? C≠some (G4 vs n):=fun vs n e=>by
  refine z33 hn₃ fun o es ep e' hd _=>?_;rw[e]at e';cases e';cases hd
 have hk:∀b o,b∉[C]→s₃.heap.get? b=some o→h'.get? b=some o:=fun b o hb e=>(hs.2 b fun h=>hb (by rw[h];simp)).trans e;have hCs:s.heap.get? C=none:=by
  cases e:s.heap.get? C with
  |none=>rfl
  |some o=>obtain⟨o',e'⟩:=X.live _ _ e;rw[hC0]at e';cases e'
 have hBn:B.get? C=none:=by
  cases e:B.get? C with
  |none=>rfl
  |some o=>have:=R.base _ _ e;rw[hCs]at this;cases this
 have W:=(XY.weak.trans Z).wide (W:=[C]) (h':=h') (tk:=s₃.toks) (fun b hb=>by rw[Q2 hb];exact hCs) (fun b hb=>by rw[Q2 hb];exact hBn) (fun b hb=>by rw[Q2 hb];exact hC) (fun b hb vs n=>by rw[Q2 hb];exact hnt vs n) hk;refine h _ _ _ W (F₃.wide (fun b hb o e=>hk b o (fun h=>hCo (by rw[←Q2 h];exact hb)) e) fun a vs n e=>hk a _ (fun h=>hnt vs n (by rw[←Q2 h];exact e)) e) .next
theorem J8.asgT{N:Nat}{xs:List Nat}{y:Ex}{eP target:PySem.Expr}{pos:Pos}(hh:A.handled=none)(h1:G5 prog w A B env (evE Φ y) (eval eP env))(hm:mTg (.many xs) target=true)(hc:∀x∈xs,Y9 env x)
 (hs:swapsWithSole [target] eP pos.line env=pure false) (hw:swappedStores [target] eP env=pure none) (hst:assignEach [target] env=[(false,assign target env)]):
 J8 prog w A B env (exS Φ N (.asgT xs y)) (exec (.Assign [target] eP pos) env):=fun ι σ s ρ fl ρ' σ' Q E R F e h=>by
 refine bnP e fun v σ₁ e1 e=>?_;refine bnE e fun vs hv e=>?_;obtain rfl:=Yu hv;refine cps fun qG qK=>?_;refine bnE e fun ρ₁ hu e=>?_;obtain⟨rfl,rfl,rfl⟩:=si3 e;refine qK ?_;refine wpAny_Assign_stores (h1 ι σ s ρ _ σ₁ _ _ R F e1 fun ι₁ s₁ u X r=>?_) hs hw;rw[hst];have main:wpAny (model prog w) A (assign target env u) (fun _=>Q .next) E s₁:=assign_snd (t:=.many xs) hh hm hc X.rel (F.ext' R X) r hu fun s₂ Y F₂=>h _ _ _ (X.weak.trans Y) F₂ .next
 first
  |exact main
  |(unfold assignAll;first|exact main|exact Qt (wpAny_holding (wpAny_mono main (fun _ _ q=>Qu q) fun _ _ x=>x))|exact Qt (wpAny_mono main (fun _ _ q=>Qu q) fun _ _ x=>x))
theorem bind_names{ρ':Fr}:∀{xs:List Nat} {l:List V} {vs:List Value} {σ:Sto} {s:Shared} {ρ:Fr} {Q:Unit→Shared→Prop},(∀x∈xs,Y9 env x)→Rel prog w B σ ι s.heap→FrR B ι s.heap ρ env→VsR s.heap ι l vs→upds xs l ρ=some ρ'→
 (∀s',Gs (prog:=prog) (w:=w) (own env) B ι s σ ι s'→FrR B ι s'.heap ρ' env→Q () s')→wpAny (model prog w) A (assignInOrder ((xs.map nm).map fun n=>bindName env n) vs) Q E s
 |[],l,vs,σ,s,ρ,Q,hc,R,F,q,e,h=>by
  cases q with
  |nil=>
   simp only[upds,Q1]at e;subst e;exact Qu (h s (Gs.refl R) F)
  |cons=>simp[upds]at e
 |x::xs,l,vs,σ,s,ρ,Q,hc,R,F,q,e,h=>by
  cases q with
  |nil=>simp[upds]at e
  | @cons y v ys us a b=>
   simp only[upds]at e;show wpAny _ _ (holding us (bindName env (nm x) v) >>= fun _=>assignInOrder ((xs.map nm).map fun n=>bindName env n) us) _ _ _;refine Qt (wpAny_holding (wpAny_bindName (F.store R (hc x (.head _)) a fun s₁ x₁ F₁=>?_)));exact bind_names (fun y hy=>hc y (.tail _ hy)) x₁.rel F₁ (b.mono (x₁.tups R F.tups) (Q3 _)) e fun s' x₂ F₂=>h s' (x₁.trans x₂) F₂
end
theorem upd_comm{ρ:Fr}{x y:Nat}(h:x≠y)(v u:V):upd (upd ρ x v) y u=upd (upd ρ y u) x v:=by
 funext z;unfold upd;by_cases h1:z=y
 ·have h2:z≠x:=fun e=>h (by rw[←e,h1]);simp[h1];exact fun e=>absurd e.symm h
 ·by_cases h2:z=x
  ·simp[h2,h]
  ·simp[h1,h2]
theorem upds_upd{x:Nat}{v:V}:∀{xs:List Nat} {l:List V} {ρ:Fr},x∉xs→upds xs l (upd ρ x v)=(upds xs l ρ).map fun r=>upd r x v
 |[],[],ρ,_=>rfl
 |[],_::_,ρ,_=>rfl
 |_::_,[],ρ,_=>rfl
 |y::ys,u::us,ρ,h=>by
  simp only[upds];rw[upd_comm (fun e:x=y=>h (e▸ .head _)),upds_upd (fun hm=>h (.tail _ hm))]
theorem upds_snoc{x:Nat}{v:V}:∀{xs:List Nat} {l:List V} {ρ:Fr},xs.length=l.length→upds (xs++[x]) (l++[v]) ρ=(upds xs l ρ).map fun r=>upd r x v
 |[],[],ρ,_=>rfl
 |[],_::_,ρ,h=>by simp at h
 |_::_,[],ρ,h=>by simp at h
 |y::ys,u::us,ρ,h=>by
  simp only[List.cons_append,upds];exact upds_snoc (by simpa using h)
theorem upds_rev:∀{xs:List Nat} {l:List V} {ρ:Fr},xs.Nodup→xs.length=l.length→upds xs.reverse l.reverse ρ=upds xs l ρ
 |[],[],ρ,_,_=>rfl
 |[],_::_,ρ,_,h=>by simp at h
 |_::_,[],ρ,_,h=>by simp at h
 |y::ys,u::us,ρ,hn,h=>by
  rw[List.nodup_cons]at hn;have hl:ys.length=us.length:=by simpa using h
  rw[List.reverse_cons,List.reverse_cons,upds_snoc (by simpa using hl),upds_rev hn.2 hl];simp only[upds];rw[upds_upd hn.1]
section
variable{prog:Program}{w:World}{A:Around}{E:Value→Shared→Prop}{B:Bas}{σ:Sto}{ι:List Addr}{s:Shared}{k:Nat}{env:Env}{Φ:Calls}
theorem J8.asgTs{N:Nat}{xs:List Nat}{y:Ex}{eP target:PySem.Expr}{pos:Pos}(hh:A.handled=none)(h1:G5 prog w A B env (evE Φ y) (eval eP env))(hn:xs.Nodup)(hc:∀x∈xs,Y9 env x)
 (hs:swapsWithSole [target] eP pos.line env=pure false) (hw:swappedStores [target] eP env=pure (some (xs.map nm))):
 J8 prog w A B env (exS Φ N (.asgT xs y)) (exec (.Assign [target] eP pos) env):=fun ι σ s ρ fl ρ' σ' Q E R F e h=>by
 refine bnP e fun v σ₁ e1 e=>?_;refine bnE e fun vs hv e=>?_;obtain rfl:=Yu hv;refine cps fun qG qK=>?_;refine bnE e fun ρ₁ hu e=>?_;obtain⟨rfl,rfl,rfl⟩:=si3 e;refine qK ?_;have hlen:=Z0 hu;rw[exec_Assign_arm];refine Qt (wpAny_standAt ?_);rw[hs];refine Qt (Qu ?_);rw[if_neg (by decide)];refine Qt (h1 ι σ s ρ _ σ₁ _ _ R F e1 fun ι₁ s₁ u X r=>?_);rw[hw];refine Qt (Qu ?_);refine VR.tupE r fun a us n ev q _=>?_;have hsz:=J6 q;unfold assignStores;refine Qt (wpAny_rule ?_);refine Qt ?_;rw[show(xs.map nm).length=us.size by rw[Qi,hsz,hlen]];refine wpAny_unpackItems_tuple hh (J4 ev) fun h' he=>?_;have hk:∀b o,s₁.heap.get? b=some o→h'.get? b=some o:=fun b o eb=>he b o (Nat.ne_of_lt (Heap.lt_size eb)) eb;have x₀:Ext (prog:=prog) (w:=w) B ι₁ s₁ σ₁ ι₁ {s₁ with heap:=h',toks:=s₁.toks}:=Ext.grown X.rel hk;rw[←List.map_reverse];refine Qt (bind_names (fun x hx=>hc x (List.mem_reverse.mp hx)) x₀.rel ((F.ext' R X).ext' X.rel x₀) ((q.mono (fun _ _ _ e=>hk _ _ e) (Q3 _)).reverse) (by rw[upds_rev hn hlen];exact hu) fun s₂ Y F₂=>?_);exact Qu (h _ _ _ (X.weak.trans (x₀.weak.trans Y)) F₂ .next)
end
structure Fs(B:Bas)(fa:Nat→Addr)(fd:Nat→FuncData):Prop where
 at_:∃(H:Heap) (mg:Str→Option Value),(∀a o,H.get? a=some o→B.get? a=some o)∧H.Ns mainGlobals mg∧
  ∀f,f<45→mg (fnm f)=some (.ref (fa f))∧(∃o,H.get? (fa f)=some o∧o.data=.func (fd f))∧H.CodeRec (fd f).code (fd f).qualname
section
variable{prog:Program}{w:World}{A:Around}{E:Value→Shared→Prop}{B:Bas}{σ:Sto}{ι:List Addr}{s:Shared}{k:Nat}{env:Env}{Φ:Calls}{fa:Nat→Addr}{fd:Nat→FuncData}
theorem Fs.raise{B':Bas}(G:Fs B fa fd)(hle:B.le B'):Fs B' fa fd:=let⟨H,mg,h1,r⟩:=G.at_;⟨H,mg,fun a o e=>hle _ _ (h1 a o e),r⟩
noncomputable def SndF(prog:Program)(w:World)(A:Around)(B:Bas)(fa:Nat→Addr)(Φ:Calls):Prop:=
 ∀(f:Nat) (ι:List Addr) (σ:Sto) (s:Shared) (vs:List V) (us:List Value) (v:V) (σ':Sto) (Q:Value→Shared→Prop) (E:Value→Shared→Prop),f<45→Rel prog w B σ ι s.heap→VsR s.heap ι vs us→
  Φ f vs σ=some (v,σ')→Jp prog w B ι s v σ' Q→wpAny (model prog w) A (call (.ref (fa f)) us) Q E s
theorem G5.call{f:Nat}{es:Exs}{args:List PySem.Expr}{p1 pos:Pos}(G:Fs B fa fd)(hf:f<45)(hk:env.kindOf (fnm f)=some .globalImplicit)(hd:(fnm f==("__debug__" :Str))=false)
 (hall:(backTo pos (starEach args env)).all (fun x=>!x.1)=true) (hΦ:SndF prog w A B fa Φ)
 (h1:Za prog w A B env (Uc Φ es) (spliced (backTo pos (starEach args env)))):G5 prog w A B env (evE Φ (.call f es)) (eval (.Call (.Name (fnm f) p1) args [] pos) env):=fun ι σ s ρ v σ' Q E R F e h=>by
 refine cps fun qG qK=>?_;refine bnP e fun vs σ₁ e1 e=>?_;refine z23 G.at_ fun H mg g1 g2 g3=>?_;obtain⟨g4,⟨o,g5,g6⟩,_⟩:=g3 f hf;refine qK ?_;refine wpAny_Call_NameR ?_;refine PySem.Calls.Name_function_global F.ok.kind hk ?_ hd;refine PySem.Calls.loadGlobal_global (by rw[F.ok.glob];exact g2.keeps fun a o e=>R.base a o (g1 a o e)) g4 ?_;refine PySem.Calls.callWith_function (o:=o) (fd:=fd f) (Y7 hall ?_);refine h1 ι σ s ρ vs σ₁ _ _ R F e1 fun ι₁ s₁ us X r=>⟨⟨X.rel.base _ _ (g1 _ _ g5),g6⟩,?_⟩
 exact hΦ f ι₁ σ₁ s₁ vs us v σ' Q E hf X.rel r e (h.later X)
end
theorem lookup_cons'{n m:Str}{v:Value}{l:List (Str×Value)}:((m,v)::l).lookup n=if n=m then some v else l.lookup n:=by
 rw[List.lookup_cons];by_cases h:n=m
 ·rw[if_pos h,h,beq_self_eq_true]
 ·rw[if_neg h,beq_false_of_ne h]
theorem zip_lookup:∀{ns:List Str} {vs:List Value},ns.length=vs.length→∀n∈ns,∃v,(ns.zip vs).lookup n=some v
 |[],[],_,n,h=>nomatch h
 |m::ns,v::vs,hl,n,h=>by
  rw[List.zip_cons_cons,lookup_cons'];by_cases e:n=m
  ·exact⟨v,if_pos e⟩
  ·rw[if_neg e];exact zip_lookup (Nat.succ.inj hl) n ((Q5 h).resolve_left e)
theorem zip_filterMap:∀{ns:List Str} {vs:List Value} {l:List (Str×Value)},ns.length=vs.length→(∀x∈ns.zip vs,l.lookup x.1=some x.2)→(ns.filterMap fun n=>(l.lookup n).map (n,·))=ns.zip vs
 |[],[],_,_,_=>rfl
 |m::ns,v::vs,l,hl,h=>by
  rw[List.filterMap_cons,show l.lookup m=some v from h (m,v) (.head _)];exact congrArg ((m,v)::·) (zip_filterMap (Nat.succ.inj hl) fun x hx=>h x (.tail _ hx))
theorem Zl:∀{ns:List Str} {vs:List Value},ns.Nodup→∀x∈ns.zip vs,(ns.zip vs).lookup x.1=some x.2
 |[],_,_,x,h=>nomatch h
 |_::_,[],_,x,h=>nomatch h
 |m::ns,v::vs,hn,x,h=>by
  have hn:=List.nodup_cons.mp hn;rw[List.zip_cons_cons,lookup_cons'];refine(Q5 h).elim (fun h=>by rw[h];exact if_pos rfl) fun h=>(if_neg fun e:x.1=m=>hn.1 (e▸(List.of_mem_zip (a:=x.1) (b:=x.2) h).1)).trans (Zl hn.2 x h)
theorem bindArgs_plain{fd:FuncData}{vals:List Value}(h1:fd.params.posonlyargs=[])(h2:fd.params.kwonlyargs=[])(h3:fd.params.vararg=none)(h4:fd.params.kwarg=none)(h5:fd.defaults=.none)
 (hl:fd.params.args.length=vals.length) (hn:(fd.params.args.map (·.arg)).Nodup):bindArgs fd ⟨vals,[]⟩=pure ((fd.params.args.map (·.arg)).zip vals):=by
 obtain⟨_,_,⟨_,as,_,_,_,_,_⟩,_,_,_,_,_,_,_,_,_,_,_,_⟩:=fd;dsimp only at h1 h2 h3 h4 h5 hl hn;subst h1 h2 h3 h4 h5;have hlen:(as.map (·.arg)).length=vals.length:=(Qi ..).trans hl;have hmiss:(List.filter (fun n=>(((as.map (·.arg)).zip vals).lookup n).isNone) (as.map (·.arg)))=[]:=
  List.filter_eq_nil_iff.mpr fun n hm=>z11 (zip_lookup hlen n hm) fun v hv=>by rw[hv];exact Bool.false_ne_true
 have dn:∀k,List.drop k ((Option.getD (none:Option (Array Value)) #[]).toList)=[]:=fun k=>List.drop_nil;refine(if_neg (c:=(decide (vals.length>(as.map (·.arg)).length)&&true)=true) (by rw[hlen,decide_eq_false (Nat.lt_irrefl _)];exact Bool.false_ne_true)).trans ((if_neg fun h=>?_).trans ?_)
 ·rw[dn]at h;exact Bool.false_ne_true ((congrArg (fun l:List Str=>!l.isEmpty) ((congrArg (List.filter _) List.take_length).trans hmiss)).symm.trans h)
 rw[dn];show(forIn ((List.drop (as.map (·.arg)).length (as.map (·.arg))).zip ([]:List Value)) ((as.map (·.arg)).zip vals) _ >>= _)=_;rw[List.drop_length];exact congrArg (pure:_→Sem _) ((congrArg (List.filterMap _) (Qp (as.map (·.arg)))).trans (zip_filterMap hlen (Zl hn)))
structure ParamOk(names:List (Str×NameKind))(kindOf:Str→Option NameKind)(cells:List (Str×Addr))(x:Nat):Prop where
 rng:x<56
 kd:kindOf (nm x)=some .local∨(kindOf (nm x)=some .cell∧(cells.lookup (nm x)).isSome=true)
theorem bind_ok{h:Heap}{ι:List Addr}{kindOf:Str→Option NameKind}:∀{xs:List Nat} {vs:List V} {us:List Value} {ρ0 ρ:Fr} {m cm:Str→Option Value},VsR h ι vs us→upds xs vs ρ0=some ρ→(∀x∈xs,x<56)→
 (∀x v,ρ0 x=some v→x<56∧∃u,VR h ι v u∧(if kindOf (nm x)=some .local then m (nm x)=some u else cm (nm x)=some u))→
 (∀x v,ρ x=some v→(ρ0 x=some v∨x∈xs)∧x<56∧∃u,VR h ι v u∧(if kindOf (nm x)=some .local then bindL kindOf ((xs.map nm).zip us) m (nm x)=some u else bindC kindOf ((xs.map nm).zip us) cm (nm x)=some u))
 |[],[],us,ρ0,ρ,m,cm,hv,e,hx,h0=>fun x v hxv=>by
  have hxv:ρ0 x=some v:=Option.some.inj e▸hxv;have hu:us=[]:=hv.fwd;subst hu;exact⟨.inl hxv,h0 x v hxv⟩
 |[],_::_,_,_,_,_,_,_,e,_,_|_::_,[],_,_,_,_,_,_,e,_,_=>nomatch e
 |y::xs,a::l,us,ρ0,ρ,m,cm,hv,e,hx,h0=>z23 hv.fwd fun u0 us' eu r rs=>by
  subst eu;have hy:y<56:=hx y (.head _);have ih:=bind_ok (kindOf:=kindOf) (m:=if kindOf (nm y)=some .local then fun z=>if z=nm y then some u0 else m z else m) (cm:=if kindOf (nm y)=some .local then cm else fun z=>if z=nm y then some u0 else cm z) rs (show upds xs l (upd ρ0 y a)=some ρ from e) (fun x hx'=>hx x (.tail _ hx')) (fun x v hxv=>Ur hxv (fun e ev=>⟨e▸hy,u0,ev▸r,by
   subst e;by_cases hk:kindOf (nm x)=some .local
   ·rw[if_pos hk,if_pos hk];exact if_pos rfl
   ·rw[if_neg hk,if_neg hk];exact if_pos rfl⟩) fun hxy hxv=>zA2 (h0 x v hxv) fun h1 h=>z12 h fun u h2 h3=>⟨h1,u,h2,by
   have hne:nm x≠nm y:=fun e=>hxy (nm_inj x y h1 hy e);by_cases hk2:kindOf (nm y)=some .local
   ·rw[if_pos hk2,if_pos hk2,if_neg hne];exact h3
   ·rw[if_neg hk2,if_neg hk2,if_neg hne];exact h3⟩)
  exact fun x v hxv=>zA3 (ih x v hxv) fun h1 h2 h=>⟨h1.elim (fun h1=>Ur h1 (fun e _=>.inr (e▸ .head _)) fun _ h=>.inl h) fun h=>.inr (.tail _ h),h2,h⟩
theorem Zf:∀{names:List (Str×NameKind)} {L:Nat} {acc:List (Str×Addr)},(names.map (·.1)).Nodup→(∀x∈acc,x.1∉names.map (·.1))→(∀n c d,(n,c)∈acc→(n,d)∈acc→c=d)→
 ∀n c d,(n,c)∈cellsFrom L names acc→(n,d)∈cellsFrom L names acc→c=d
 |[],_,_,_,_,h=>h
 |(m,k)::r,L,acc,hn,ha,h=>by
  simp only[Q7,List.nodup_cons]at hn;unfold cellsFrom;split
  ·refine Zf hn.2 (fun x hx=>?_) ?_
   ·rcases Q5 hx with rfl|hx
    ·exact hn.1
    ·exact fun hm=>ha x hx (.tail _ hm)
   ·intro n c d hc hd;rcases Q5 hc with e1|hc<;>rcases Q5 hd with e2|hd
    ·cases e1;cases e2;rfl
    ·cases e1;exact absurd (List.Mem.head _) (ha _ hd)
    ·cases e2;exact absurd (List.Mem.head _) (ha _ hc)
    ·exact h n c d hc hd
  ·exact Zf hn.2 (fun x hx hm=>ha x hx (.tail _ hm)) h
section
variable{prog:Program}{w:World}{A:Around}{E:Value→Shared→Prop}{B:Bas}{σ:Sto}{ι:List Addr}{s:Shared}{k:Nat}{env:Env}{Φ:Calls}{fa:Nat→Addr}{fd:Nat→FuncData}
theorem FrR.called{s₁:Shared}{d:FuncData}{a:Addr}{xs:List Nat}{vs:List V}{us:List Value}{ρ:Fr}(R:Rel prog w B σ ι s.heap)(hv:VsR s.heap ι vs us)(hu:upds xs vs (fun _=>none)=some ρ)
 (hk:d.scope.kind=.function) (hg:d.globals=mainGlobals) (hb:d.builtins=builtinsNs) (hn:(d.scope.names.map (·.1)).Nodup)
 (hx:∀x∈xs,ParamOk d.scope.names (callEnvC d s.heap.objs.size a).kindOf (callEnvC d s.heap.objs.size a).cells x)
 (X:InCallC s (callEnvC d s.heap.objs.size a).locals (bindL (callEnvC d s.heap.objs.size a).kindOf ((xs.map nm).zip us) fun _=>none) (callEnvC d s.heap.objs.size a).cells (bindC (callEnvC d s.heap.objs.size a).kindOf ((xs.map nm).zip us) fun _=>none) s₁):
 FrR B ι s₁.heap ρ (callEnvC d s.heap.objs.size a)∧Ext (prog:=prog) (w:=w) B ι s σ ι s₁:=by
 have hkeep:=X.toInCall.keep;have hloc:(callEnvC d s.heap.objs.size a).locals=s.heap.objs.size:=rfl;have old:∀b∈ι,b<s.heap.objs.size:=fun b hb=>by
  refine z11 (R.live hb) fun o e=>?_;exact Heap.lt_size e
 have oldB:∀b,s.heap.objs.size≤b→B.get? b=none:=fun b hb=>by
  cases e:B.get? b with
  |none=>rfl
  |some o=>exact absurd (Heap.lt_size (R.base _ _ e)) (Nat.not_lt.mpr hb)
 have bo:=bind_ok (kindOf:=(callEnvC d s.heap.objs.size a).kindOf) (m:=fun _=>none) (cm:=fun _=>none) hv hu (fun x h=>(hx x h).rng) (fun x v e=>by cases e);have mem:∀x v,ρ x=some v→x∈xs:=fun x v e=>by
  rcases(bo x v e).1 with h|h
  ·cases h
  ·exact h
 have R1:Ext (prog:=prog) (w:=w) B ι s σ ι s₁:=by
  obtain⟨h₁,tk,rfl⟩:=X.toInCall.same;exact Ext.grown R hkeep
 refine⟨{ok:=⟨hk,hg,hb⟩,rng:=fun x v e=>(bo x v e).2.1,ns:=⟨_,X.toInCall.ns,fun x v e hl=>?_⟩,cl:=fun x v e hl=>?_,cells:=fun n c hm=>?_,apart:=X.apart,locOut:=?_,locNew:=?_},R1⟩
 ·obtain⟨_,_,u,h1,h2⟩:=bo x v e;rw[if_pos hl]at h2;exact⟨u,h2,h1.mono (fun a vs n e=>hkeep _ _ e) (Q3 _)⟩
 ·obtain⟨_,_,u,h1,h2⟩:=bo x v e;have hnl:¬(callEnvC d s.heap.objs.size a).kindOf (nm x)=some .local:=by rcases hl with hl|hl<;>rw[hl]<;>decide
  rw[if_neg hnl]at h2;rcases(hx x (mem x v e)).kd with h|⟨_,h⟩
  ·exact absurd h hnl
  ·refine z11 (Option.isSome_iff_exists.mp h) fun c hc=>?_;refine⟨c,u,hc,?_,h1.mono (fun a vs n e=>hkeep _ _ e) (Q3 _)⟩;have:=X.cell _ c hc;rw[h2]at this;exact this
 ·have hlt:=X.above n c hm;have hc:(callEnvC d s.heap.objs.size a).cells.lookup n=some c:=lookup_of_apart hm fun d' hd=>Zf hn (fun x hx=>by cases hx) (fun _ _ _ h=>by cases h) _ _ _ hd hm;refine⟨⟨_,X.cell n c hc⟩,fun hi=>?_,?_,?_⟩
  ·have:=old c hi;rw[hloc]at hlt;exact absurd this (by exact Nat.not_lt.mpr (Nat.le_of_lt hlt))
  ·exact Nat.ne_of_gt hlt
  ·exact oldB c (Nat.le_of_lt hlt)
 ·intro hi;exact absurd (old _ hi) (Nat.lt_irrefl _)
 ·exact oldB _ (Qs _)
end
structure FnOk(d:FuncData)(fn:Fn)(body:List Stmt):Prop where
 body:d.body=.stmts body
 p1:d.params.posonlyargs=[]
 p2:d.params.kwonlyargs=[]
 p3:d.params.vararg=none
 p4:d.params.kwarg=none
 args:d.params.args.map (·.arg)=fn.params.map nm
 dnone:d.defaults=.none
 clo:d.closure=[]
 kind:d.scope.kind=.function
 glob:d.globals=mainGlobals
 blt:d.builtins=builtinsNs
 nodup:(d.scope.names.map (·.1)).Nodup
 pnodup:(fn.params.map nm).Nodup
 co:d.scope.isCoroutine=false
 gen:d.scope.isGenerator=false
 rng:∀x∈fn.params,x<56∧(d.scope.names.lookup (nm x)=some .local∨d.scope.names.lookup (nm x)=some .cell)
theorem Zh:∀{names:List (Str×NameKind)} {L:Nat} {acc:List (Str×Addr)} {n:Str},(∃c,(n,c)∈acc)→∃c,(n,c)∈cellsFrom L names acc
 |[],_,_,_,h=>h
 |(m,k)::r,L,acc,n,h=>by
  unfold cellsFrom;split
  ·exact Zh (h.elim fun c h=>⟨c,.tail _ h⟩)
  ·exact Zh h
theorem Zg:∀{names:List (Str×NameKind)} {L:Nat} {acc:List (Str×Addr)} {n:Str},(n,NameKind.cell)∈names→∃c,(n,c)∈cellsFrom L names acc
 |(m,k)::r,L,acc,n,h=>by
  unfold cellsFrom;rcases Q5 h with h|h
  ·cases h;rw[if_pos (by decide)];exact Zh ⟨_,.head _⟩
  ·split
   ·exact Zg h
   ·exact Zg h
theorem lookup_isSome{cs:List (Str×Addr)}{n:Str}{c:Addr}(h:(n,c)∈cs):(cs.lookup n).isSome=true:=by
 induction cs with
 |nil=>cases h
 |cons x r ih=>
  obtain⟨m,d⟩:=x;rw[List.lookup_cons];cases hb:n==m with
  |true=>rfl
  |false=>
   rcases Q5 h with h|h
   ·cases h;simp at hb
   ·exact ih h
theorem cells_isSome{names:List (Str×NameKind)}{L:Nat}{n:Str}(h:names.lookup n=some .cell):((cellsFrom L names []).lookup n).isSome=true:=by
 refine z11 (Zg (L:=L) (acc:=[]) (mem_of_lookup h)) fun c hc=>?_;exact lookup_isSome hc
section
variable{prog:Program}{w:World}{A:Around}{E:Value→Shared→Prop}{B:Bas}{σ:Sto}{ι:List Addr}{s:Shared}{k:Nat}{env:Env}{Φ:Calls}{fa:Nat→Addr}{fd:Nat→FuncData}
structure RoomW(A:Around)(k:Nat):Prop where
 h:A.handled=none
 d:A.depth+k+100<recursionLimit
 u:A.units+3*k+100<cLine
 fr:∃l,A.frames=some l
theorem Yj.toW(rm:Yj A k):RoomW A k:=⟨rm.h,rm.d,rm.u,let⟨e,l,h,_⟩:=rm.fr;⟨_,h⟩⟩
theorem RoomW.deeper{env:Env}(rm:RoomW A (k+1))(h1:env.scope.isGenerator=false)(h2:env.scope.isCoroutine=false)(h3:env.builtins=builtinsNs)(h4:env.globals=mainGlobals):Yj (A.deeper env) k where
 h:=rm.h
 d:=by have:=rm.d;show A.depth+1+k+100<_;lia
 u:=by have:=rm.u;show A.units+3+3*k+100<_;lia
 fr:=by
  refine z11 rm.fr fun l h=>?_;exact⟨env,l,by show A.frames.map _=_;rw[h];rfl,h1,h2,h3,h4⟩
theorem SndF.step{P:List Fn}{N:Nat}{bodyOf:Nat→List Stmt}(rm:RoomW A (k+1))(hbs:Bs prog B)(G:Fs B fa fd)
 (hfn:∀f,f<45→∃fn,P[f]?=some fn∧FnOk (fd f) fn (bodyOf f)∧∀A' L a,Yj A' k→J8 prog w A' B (callEnvC (fd f) L a) (exB (G0 P N k) N fn.body) (execs (bodyOf f) (callEnvC (fd f) L a))):
 SndF prog w A B fa (G0 P N (k+1)):=fun f ι σ s vs us v σ' Q E hf R hv e h=>by
 refine cps fun qG qK=>?_;refine z13 (hfn f hf) fun fn hP ok hbody=>?_;refine z23 G.at_ fun H mg g1 g2 g3=>?_;obtain⟨g4,⟨o,g5,g6⟩,g7⟩:=g3 f hf;refine z13 hbs.low fun HL l1 l2 l3=>?_;refine bnE e fun fn' hP' e=>?_;refine qK ?_;cases hP'.symm.trans hP;refine cps fun qG qK=>?_;refine bnE e fun ρ hu e=>?_;obtain⟨⟨fl0,ρ0,σ0⟩,he,e⟩:=bnx e;refine qK ?_;have hlen:(fd f).params.args.length=us.length:=by
  have h1:=Z0 hu;have h2:=hv.length;have h3:=congrArg List.length ok.args;simp only[Qi]at h3;lia
 have keepH:∀a o,H.get? a=some o→s.heap.get? a=some o:=fun a o e=>R.base a o (g1 a o e);have hbind:=bindArgs_plain (fd:=fd f) (vals:=us) ok.p1 ok.p2 ok.p3 ok.p4 ok.dnone hlen (by rw[ok.args];exact ok.pnodup);rw[ok.args]at hbind;have hkd:∀x∈fn.params,ParamOk (fd f).scope.names (callEnvC (fd f) s.heap.objs.size (fa f)).kindOf (callEnvC (fd f) s.heap.objs.size (fa f)).cells x:=fun x hx=>by
  refine zA2 (ok.rng x hx) fun h1 h2=>?_;exact⟨h1,h2.imp (fun h=>h) fun h=>⟨h,cells_isSome h⟩⟩
 refine wpAny_call (codeAny_call_cells (fd:=fd f) (by have:=rm.d;lia) (keepH _ _ g5) g6 (l3.keeps fun a o e=>R.base a o (l1 a o e)) (g7.keeps keepH) ok.body hbind ok.clo (fun x hx=>?_) (fun s₁ X=>?_) ok.co ok.gen ok.kind)
 ·refine z12 (Qg (List.of_mem_zip (a:=x.1) (b:=x.2) hx).1) fun x' hx' he=>?_;rw[←he];exact(hkd x' hx').kd
 ·refine zA2 (FrR.called R hv hu ok.kind ok.glob ok.blt ok.nodup hkd X) fun F X1=>?_;have hout:∀a o,own (callEnvC (fd f) s.heap.objs.size (fa f)) a→s.heap.get? a=some o→False:=by
   rintro a o (rfl|⟨n,hm⟩) e
   ·exact absurd (Heap.lt_size e) (Nat.lt_irrefl _)
   ·exact absurd (Heap.lt_size e) (Nat.not_lt.mpr (Nat.le_of_lt (X.above n a hm)))
  refine hbody _ _ _ (rm.deeper ok.gen ok.co ok.blt ok.glob) ι σ s₁ ρ _ _ _ _ _ X1.rel F he fun ι' s' fl Y F' hfl=>?_;have Z:Ext (prog:=prog) (w:=w) B ι s _ ι' s':=((X1.weak.trans Y).forget (own':=fun _=>False) fun a o ha e=>hout a o ha e)
  cases hfl with
  |cont=>cases e
  |next=>
   refine cps fun qG qK=>?_;have h:=h.si e;refine qK ?_;exact h _ _ _ Z .none
  |ret r=>
   refine cps fun qG qK=>?_;have h:=h.si e;refine qK ?_;exact h _ _ _ Z r
end
section
variable{prog:Program}{w:World}{A:Around}{E:Value→Shared→Prop}{B:Bas}{σ:Sto}{ι:List Addr}{s:Shared}{k:Nat}
theorem compStart_two{elt target iter:PySem.Expr}{ifs:List PySem.Expr}{g0:Comprehension}{rest:List Comprehension}{scope:Scope}{pos:Pos}{it acc:Value}{env:Env}{R:Result→Shared→Prop}
 (h0:codeAny (model prog w) A (.compLoop (.ListComp elt (g0::⟨target,iter,ifs,0⟩::rest) scope pos) 1 it acc env) R s)
 (h:∀E,wpAny (model prog w) A (pyIter it) (fun it' s'=>codeAny (model prog w) A (.compLoop (.ListComp elt (g0::⟨target,iter,ifs,0⟩::rest) scope pos) 1 it' acc env) R s') E s):
 codeAny (model prog w) A (.compStart (.ListComp elt (g0::⟨target,iter,ifs,0⟩::rest) scope pos) 1 it acc env) R s:=by
 refine codeAny_of_tree ?_;show wpAny _ _ ((compStart (.ListComp elt (g0::⟨target,iter,ifs,0⟩::rest) scope pos) 1 it acc env).onRaise (fun x=>do noteFrame x env;standAt theWindowsPlace)) _ _ s;refine wpAny_notedAt ?_;unfold compStart;show wpAny _ _ (ask >>= _) _ _ s;refine Qt (wpAny_askSetting (wpAny_ite ?_));split
 ·first
   |exact Qu (And.intro rfl h0)
   |exact Qt (Qu (Qu (And.intro rfl h0)))
 ·refine Qt (wpAny_rule ?_);show wpAny _ _ (standAt iter.pos >>= _) _ _ s;exact Qt (wpAny_standAt (Qt (wpAny_mono (h _) (fun it' s' h'=>Qu (And.intro rfl h')) fun _ _ x=>x)))
noncomputable def turnI(y:Nat)(ev:Fr→Sto→Option (V×Sto))(ρ:Fr)(yv:V)(acc:List V)(σ:Sto):Option (List V×Sto):=
 (ev (upd ρ y yv) σ).bind fun z=>if acc.length<lim then some (acc++[z.1],z.2)else none
theorem l2_inner{B₁ B₂:Bas}{src:Src}{σ₁ σ':Sto}{I:Addr}{s₀:Shared}{fp wr:List Addr}{St:Nat→Heap→Prop}{y:Nat}{elt ty iter2:PySem.Expr}{g0:Comprehension}{scope:Scope}{pos:Pos}{env:Env}{C D:Addr}{ρ:Fr}{acc₀ acc:List V}{vs₀:Array Value}{n₀:Nat}{R:Result→Shared→Prop}
 {ev:Fr→Sto→Option (V×Sto)}
 (hh:A.handled=none) (S:Jv prog w B₁ B₂ ι s src false σ₁ I s₀ fp wr St) (Rl:Rel prog w B₁ σ ι s.heap) (hm:mTg (.one y) ty=true) (hy:y<56∧(Gc scope env C).kindOf (nm y)=some .local)
 (he:G5 prog w A B₂ (Gc scope env C) ev (eval elt (Gc scope env C)))
 (hCD:C≠D) (hDo:∀n,(n,D)∉(Gc scope env C).cells) (G:FrR B₁ ι s.heap ρ (Gc scope env C)) (hD:s.heap.get? D=some (J1 vs₀ n₀)) (q:VsR s.heap ι acc₀ vs₀.toList) (hDi:D∉ι) (hBD:B₂.get? D=none)
 (hyf:∀z v,ρ z=some v→z≠y)
 (e:J3 src (turnI y ev ρ) src.items acc₀ σ₁=some (acc,σ'))
 (hR:∀ι' s' vs n,Gs (prog:=prog) (w:=w) (fun a=>a∈[C,D]) B₁ ι s σ' ι' s'→FrR B₁ ι' s'.heap ρ (Gc scope env C)→s'.heap.get? D=some (J1 vs n)→VsR s'.heap ι' acc vs.toList→D∉ι'→R (.ok .next) s'):
 codeAny (model prog w) A (.compLoop (.ListComp elt [g0,⟨ty,iter2,[],0⟩] scope pos) 1 (.ref I) (.ref D) (Gc scope env C)) R s₀:=by
 have hno:¬own (Gc scope env C) D:=fun ho=>ho.elim (fun h=>hCD h.symm) fun h=>z11 h hDo;have hP:lP D acc₀ ι s.heap:=⟨vs₀,n₀,hD,q⟩
 refine walkD (env:=Gc scope env C) (t:=.one y) Zd hh rfl rfl (by rfl) (fun _=>rfl) S Rl (fun h=>nomatch h) hm (fun x hx=>Q2 hx▸hy) rfl (fun b hb ho=>z11 (G.ownLive b ho) fun _ e=>J0 (S.fresh b hb).1 e) (fun hb=>J0 (S.fresh D hb).1 hD) hCD G.locOut hDi (fun _ _ e=>(G.ownNt (.inl rfl)).ne e) (fun _ _ e=>(Zd.nt hP).ne e) ?_ S.ext.weak ((S.fr _ _ _ G).ext' S.rel0 S.ext) S.st (ext_acc Zd S.rel0 hP hDi S.ext).1 e fun σ₂ ι' s' X hok hf G h hi=>z22 h fun vs n h1 h2=>hR ι' s' vs n {same:=X.same,pre:=X.pre,fresh:=X.fresh,live:=X.live,keep:=X.keep,rel:=hf▸S.back _ _ _ X.rel X.pre hok} (G.lower S.le) h1 h2 hi;intro x a σ₂ a₂ σ₃ hturn;refine bnP hturn fun z σ₅ helt hturn=>zA2 (Gz hturn) fun hlim hturn=>⟨upd ρ y x,rfl,fun z v hz=>(if_neg (hyf z v hz)).trans hz,fun ι₂ s₂ E Q R₂ G₂ hDi₂ hP h=>?_⟩
 revert h;refine pr2 (Option.some.inj hturn) fun h=>?_;refine Qt (Qu ?_);refine Qt (Qt (he ι₂ σ₂ s₂ _ z _ _ _ R₂ G₂ helt fun ι₅ s₅ yv Z ry=>?_));exact zA2 (ext_acc Zd R₂ hP hDi₂ Z) fun hP₅ hDi₅=>Qt (list_put (C:=C) Z.rel (G₂.ext' R₂ Z) hDi₅ hBD hno hP₅ ry hlim fun s₆ W G₆ hP₆=>Qu (Qu ⟨rfl,h ι₅ s₆ (Z.weak.trans W) G₆ hP₆ hDi₅⟩))
theorem Jv.newOut{B':Bas}{src:Src}{many:Bool}{σ₁:Sto}{I:Addr}{s₀:Shared}{fp wr:List Addr}{St:Nat→Heap→Prop}(S:Jv prog w B B' ι s src many σ₁ I s₀ fp wr St){D:Addr}(hDi:D∉ι)(hB:B.get? D=none){env:Env}(ok:EnvOk env):B'.get? D=none:=by
 have F:FrR B ι (({s.heap with objs:=Array.replicate D default}:Heap).push {cls:=.none,data:=.dict #[]}) (fun _=>none) {env with locals:=D,cells:=[]}:=
  {
   ok:=⟨ok.kind,ok.glob,ok.blt⟩,rng:=fun x v e=>(by cases e),
   ns:=⟨fun _=>none,by
    have:=Heap.Ns.new ({s.heap with objs:=Array.replicate D default}:Heap) .none;rw[show({s.heap with objs:=Array.replicate D default}:Heap).objs.size=D from Array.size_replicate ..]at this;exact this,fun x v e=>(by cases e)⟩,
   cl:=fun x v e=>(by cases e),cells:=fun n c h=>(by cases h),apart:=List.Pairwise.nil,locOut:=hDi,locNew:=hB}
 exact(S.fr _ _ _ F).locNew
theorem nest_go{t:Sem Value}{p:Pos}{fold fo:Value→Sem Value}{ai:Value→Sem Value}{kk:Value→Sem PySem.Fin}{Q:PySem.Fin→Shared→Prop}(hf:∀x,fold x=pure x)(h:wpAny (model prog w) A t (fun x s₁=>wpAny (model prog w) A (pyIter x) (fun it s₂=>wpAny (model prog w) A (kk it) Q E s₂) E s₁) E s):
 wpAny (model prog w) A (t >>= fun x=>standAt p >>= fun _=>if((0:Nat) !=0)=true then(fo x >>= fun x=>holding [x] (if((0:Nat) !=0)=true then ai x else pyIter x) >>= kk)else(fold x >>= fun x=>holding [x] (if((0:Nat) !=0)=true then ai x else pyIter x) >>= kk)) Q E s:=by
 refine Qt (wpAny_mono h (fun x s₁ h₁=>Qt (wpAny_standAt ?_)) fun _ _ e=>e);rw[if_neg (by decide),hf];refine Qt (Qu (Qt (wpAny_holding ?_)));rw[if_neg (by decide)];exact h₁
noncomputable def turn2(x y:Nat)(k2:ItK)(ev2 ev:Fr→Sto→Option (V×Sto))(ρ:Fr)(xv:V)(acc:List V)(σ:Sto):Option (List V×Sto):=
 (ev2 (upd ρ x xv) σ).bind fun v=>(Gx k2 v.1 v.2).bind fun s=>J3 s.1 (turnI y ev (upd ρ x xv)) s.1.items acc s.2
theorem l2_loop{B':Bas}{src:Src}{σ₁ σ':Sto}{I:Addr}{s₀ s₁:Shared}{fp wr:List Addr}{St:Nat→Heap→Prop}{x y:Nat}{k2:ItK}{elt tx ty iter iter2:PySem.Expr}{scope:Scope}{pos:Pos}{env:Env}{C D:Addr}{ρ:Fr}{acc:List V}{R:Result→Shared→Prop}
 {ev2 ev:Fr→Sto→Option (V×Sto)}
 (hh:A.handled=none) (S:Jv prog w B B' ι s src false σ₁ I s₀ fp wr St) (Rl:Rel prog w B σ ι s.heap) (hmx:mTg (.one x) tx=true) (hmy:mTg (.one y) ty=true) (hxy:x≠y) (ok:Yh env scope [x,y])
 (h2:Um prog w A B' (Gc scope env C) k2 false ev2 (eval iter2 (Gc scope env C))) (hf2:∀v,foldedSetIterable iter2 (Gc scope env C) v=pure v) (he:∀B₂,B'.le B₂→G5 prog w A B₂ (Gc scope env C) ev (eval elt (Gc scope env C)))
 (hwo:∀b∈wr,¬own (Gc scope env C) b) (hwD:D∉wr) (hCD:C≠D) (hDo:∀n,(n,D)∉(Gc scope env C).cells) (hC:s.heap.get? C=none) (hD:s.heap.get? D=none) (hCi:C∉ι) (hDi:D∉ι)
 (X₀:Gs (prog:=prog) (w:=w) (fun a=>a∈[C,D]) B' ι s σ₁ ι s₁) (G₀:FrR B' ι s₁.heap (drp ρ [x,y]) (Gc scope env C)) (st₀:St 0 s₁.heap) (acc₀:s₁.heap.get? D=some (J1 #[] 0))
 (e:J3 src (turn2 x y k2 ev2 ev (drp ρ [x,y])) src.items [] σ₁=some (acc,σ'))
 (hR:∀σ₂ ι' s' vs n,Gs (prog:=prog) (w:=w) (fun a=>a∈[C,D]) B' ι s σ₂ ι' s'→src.ok σ₂=true→σ'=src.free σ₂→FrR B' ι' s'.heap (drp ρ [x,y]) (Gc scope env C)→s'.heap.get? D=some (J1 vs n)→VsR s'.heap ι' acc vs.toList→D∉ι'→R (.ok .next) s'):
 codeAny (model prog w) A (.compLoop (.ListComp elt [⟨tx,iter,[],0⟩,⟨ty,iter2,[],0⟩] scope pos) 0 (.ref I) (.ref D) (Gc scope env C)) R s₁:=by
 have hno:¬own (Gc scope env C) D:=fun ho=>ho.elim (fun h=>hCD h.symm) fun h=>z11 h hDo;have drp_out:∀{z v},drp ρ [x,y] z=some v→z∉[x,y]:=fun hv h=>nomatch (if_pos h).symm.trans hv;have hxk:=ok.tgt x (.head _);have hyk:=ok.tgt y (.tail _ (.head _));refine walkD (env:=Gc scope env C) (t:=.one x) Zd hh rfl rfl (by rfl) (fun _=>rfl) S Rl (fun h=>nomatch h) hmx (fun z hz=>Q2 hz▸⟨hxk.1,lookup_relabel_local (env:=env) hxk.2⟩) rfl hwo hwD hCD hCi hDi (fun _ _ e=>J0 hC e) (fun _ _ e=>J0 hD e) ?_ X₀ G₀ st₀ ⟨#[],0,acc₀,.nil⟩ e fun σ₂ ι' s' X hok hf G h hi=>z22 h fun vs n h1 h2=>hR σ₂ ι' s' vs n X hok hf G h1 h2 hi;intro xv a σ₂ a₂ σ₃ hturn;refine bnP hturn fun v2 σ₄ hev2 hturn=>bnP hturn fun src2 σ₅ hmk hturn=>⟨upd (drp ρ [x,y]) x xv,rfl,fun z v hz=>(if_neg fun h:z=x=>drp_out hz (h▸ .head _)).trans hz,fun ι₂ s₂ E Q R₂ G₂ hDi₂ hP h=>?_⟩
 refine Qt (Qu ?_);refine nest_go (kk:=fun it=>runOwn (.compStart (.ListComp elt [⟨tx,iter,[],0⟩,⟨ty,iter2,[],0⟩] scope pos) 1 it (.ref D) (Gc scope env C)) (Gc scope env C) >>= fun _=>again (.compLoop (.ListComp elt [⟨tx,iter,[],0⟩,⟨ty,iter2,[],0⟩] scope pos) 0 (.ref I) (.ref D) (Gc scope env C))) hf2 ?_;refine h2 ι₂ σ₂ s₂ _ v2 σ₄ src2 σ₅ _ _ R₂ G₂ hev2 hmk fun ι₄ s₄ B₂ I₂ s₅ fp₂ wr₂ St₂ Z₄ S₂=>zA2 (ext_acc Zd R₂ hP hDi₂ Z₄) fun hP₄ hDi₄=>z22 hP₄ fun vs n hD₄ q₄=>?_;have G₄:=G₂.ext' R₂ Z₄;have hB₂:B₂.get? D=none:=S₂.newOut hDi₄ (S.rel0.noB hD) G₄.ok;have inner:∀(R:Result→Shared→Prop),(∀ι' s' vs n,Gs (prog:=prog) (w:=w) (fun a=>a∈[C,D]) B' ι₄ s₄ σ₃ ι' s'→FrR B' ι' s'.heap (upd (drp ρ [x,y]) x xv) (Gc scope env C)→s'.heap.get? D=some (J1 vs n)→VsR s'.heap ι' a₂ vs.toList→D∉ι'→R (.ok .next) s')→
  codeAny (model prog w) A (.compLoop (.ListComp elt [⟨tx,iter,[],0⟩,⟨ty,iter2,[],0⟩] scope pos) 1 (.ref I₂) (.ref D) (Gc scope env C)) R s₅:=fun R hR=>
  l2_inner (iter2:=iter2) (g0:=⟨tx,iter,[],0⟩) hh S₂ Z₄.rel hmy ⟨hyk.1,lookup_relabel_local (env:=env) hyk.2⟩ (he B₂ S₂.le) hCD hDo G₄ hD₄ q₄ hDi₄ hB₂ (fun z v hz hzy=>drp_out ((if_neg fun h:z=x=>hxy (h.symm.trans hzy)).symm.trans hz) (hzy▸ .tail _ (.head _))) hturn hR
 have fin:∀ι' s' vs n,Gs (prog:=prog) (w:=w) (fun a=>a∈[C,D]) B' ι₄ s₄ σ₃ ι' s'→FrR B' ι' s'.heap (upd (drp ρ [x,y]) x xv) (Gc scope env C)→s'.heap.get? D=some (J1 vs n)→VsR s'.heap ι' a₂ vs.toList→D∉ι'→Q PUnit.unit s':=fun ι' s' vs n X' G' hD' q' hDi'=>h ι' s' (Z₄.weak.trans X') G' ⟨vs,n,hD',q'⟩ hDi';refine Qt (wpAny_runOwn ?_);refine compStart_two (inner _ fun ι' s' vs n X' G' hD' q' hDi'=>Qu ⟨rfl,fin ι' s' vs n X' G' hD' q' hDi'⟩) fun E=>(S₂.it A hh).self 0 _ _ _ S₂.st ?_;exact inner _ fun ι' s' vs n X' G' hD' q' hDi'=>Qu ⟨rfl,fin ι' s' vs n X' G' hD' q' hDi'⟩
end
section
variable{prog:Program}{w:World}{A:Around}{E:Value→Shared→Prop}{B:Bas}{σ:Sto}{ι:List Addr}{s:Shared}{k:Nat}{env:Env}{Φ:Calls}
theorem l2_core{B':Bas}{src:Src}{σ₁ σ':Sto}{I:Addr}{s₀:Shared}{fp wr:List Addr}{St:Nat→Heap→Prop}{x y:Nat}{k2:ItK}{elt tx ty iter iter2:PySem.Expr}{scope:Scope}{pos:Pos}{env:Env}{ρ:Fr}{acc:List V}
 {ev2 ev:Fr→Sto→Option (V×Sto)} {use:Option (Value→Sem Unit)} {Q:Value→Shared→Prop}
 (hh:A.handled=none) (S:Jv prog w B B' ι s src false σ₁ I s₀ fp wr St) (Rl:Rel prog w B σ ι s.heap) (F:FrR B ι s.heap ρ env) (hmx:mTg (.one x) tx=true) (hmy:mTg (.one y) ty=true) (hxy:x≠y) (ok:Yh env scope [x,y])
 (h2:∀C,Um prog w A B' (Gc scope env C) k2 false ev2 (eval iter2 (Gc scope env C))) (hf2:∀C v,foldedSetIterable iter2 (Gc scope env C) v=pure v) (he:∀C B₂,B'.le B₂→G5 prog w A B₂ (Gc scope env C) ev (eval elt (Gc scope env C)))
 (e:J3 src (turn2 x y k2 ev2 ev (drp ρ [x,y])) src.items [] σ₁=some (acc,σ'))
 (hQ:∀ι' s' C D m,Ext (prog:=prog) (w:=w) B ι s (σ'++[.list acc]) (ι'++[D]) s'→VR s'.heap (ι'++[D]) (.loc σ'.length) (.ref D)→s'.heap.Ns C m→C∉ι'++[D]→s.heap.get? C=none→compPost (model prog w) A E use Q (.ref D) C (.ok .next) s'):
 wpAny (model prog w) A (newList []) (fun acc s₃=>wpAny (model prog w) A (newFunctionEnv scope env.globals (clOf env scope.names []) [] env.qual none .none (some env)) (fun cenv s₄=>
  codeAny (model prog w) A (.compStart (.ListComp elt [⟨tx,iter,[],0⟩,⟨ty,iter2,[],0⟩] scope pos) 0 (.ref I) acc {cenv with scope:=relabel scope env}) (compPost (model prog w) A E use Q acc cenv.locals) s₄) E s₃) E s₀:=by
 have F₁:FrR B' ι s₀.heap ρ env:=(S.fr _ _ _ F).ext' S.rel0 S.ext;refine wpAny_newList ?_ (by simp);have hzD:(s₀.heap.push (J1 #[] 0)).objs.size=s₀.heap.objs.size+1:=Heap.size_push ..;have hDC:s₀.heap.objs.size≠(s₀.heap.push (J1 #[] 0)).objs.size:=by rw[hzD];exact Nat.ne_of_lt (Nat.lt_succ_self _)
 refine wpAny_newFunctionEnv (fun x hx=>ok.nocell x hx) (fun x hx=>by cases hx) (fun h₄ hns hsb=>?_) ok.kind;have hns:h₄.Ns (s₀.heap.push (J1 #[] 0)).objs.size fun _=>none:=hns;have hsb:Heap.SameBut (s₀.heap.push (J1 #[] 0)).objs.size ((s₀.heap.push (J1 #[] 0)).push {cls:=.type "dict",data:=.dict #[]}) h₄:=hsb;have hk:∀b o,s₀.heap.get? b=some o→h₄.get? b=some o:=fun b o eb=>by
  refine(hsb.2 b ?_).trans (G2 _ _ _ _ (G2 _ _ _ _ eb));rw[hzD];exact Nat.ne_of_lt (Nat.lt_succ_of_lt (Heap.lt_size eb))
 have hD₄:h₄.get? s₀.heap.objs.size=some (J1 #[] 0):=(hsb.2 _ hDC).trans (G2 _ _ _ _ (Qv _ rfl));have hC₀:s₀.heap.get? (s₀.heap.push (J1 #[] 0)).objs.size=none:=U0 (by rw[hzD];exact Nat.le_succ _);show codeAny (model prog w) A (.compStart (.ListComp elt [⟨tx,iter,[],0⟩,⟨ty,iter2,[],0⟩] scope pos) 0 (.ref I) (.ref s₀.heap.objs.size) (Gc scope env (s₀.heap.push (J1 #[] 0)).objs.size)) (compPost (model prog w) A E use Q (.ref s₀.heap.objs.size) (s₀.heap.push (J1 #[] 0)).objs.size) {s₀ with heap:=h₄,toks:=s₀.toks};generalize hCC:(s₀.heap.push (J1 #[] 0)).objs.size=C at *;have hD₀:s₀.heap.get? s₀.heap.objs.size=none:=Yo _;generalize hDD:s₀.heap.objs.size=D at *;have dead:∀b,s₀.heap.get? b=none→s.heap.get? b=none:=fun b hb=>by
  cases e:s.heap.get? b with
  |none=>rfl
  |some o=>obtain⟨o',e'⟩:=S.ext.live b o e;rw[hb]at e';cases e'
 have hCi:C∉ι:=fun h=>by obtain⟨o,e⟩:=S.ext.rel.live h;rw[hC₀]at e;cases e
 have hDi:D∉ι:=fun h=>by obtain⟨o,e⟩:=S.ext.rel.live h;rw[hD₀]at e;cases e
 have hcells:∀n b,(n,b)∈(Gc scope env C).cells→∃o,s.heap.get? b=some o:=fun n b hb=>by
  rcases clOf_mem hb with h|⟨_,h⟩
  ·cases h
  ·exact F.ownLive b (.inr ⟨n,mem_of_lookup h⟩)
 have X₀:Ext (prog:=prog) (w:=w) B' ι s σ₁ ι {s₀ with heap:=h₄,toks:=s₀.toks}:=S.ext.trans (Ext.grown S.ext.rel hk);have G₀:FrR B' ι h₄ (drp ρ [x,y]) (Gc scope env C):=F₁.comp S.ext.rel ok hC₀ hk hns;have st₀:St 0 h₄:=(S.it A hh).frame _ _ _ S.st (fun b _ o e=>hk b o e) fun _ _ _ e=>hk _ _ e;have loop:codeAny (model prog w) A (.compLoop (.ListComp elt [⟨tx,iter,[],0⟩,⟨ty,iter2,[],0⟩] scope pos) 0 (.ref I) (.ref D) (Gc scope env C)) (compPost (model prog w) A E use Q (.ref D) C) {s₀ with heap:=h₄,toks:=s₀.toks}:=by
  refine l2_loop (C:=C) hh S Rl hmx hmy hxy ok (h2 C) (hf2 C) (he C) ?_ ?_ (Ne.symm hDC) ?_ (dead _ hC₀) (dead _ hD₀) hCi hDi X₀.weak G₀ st₀ hD₄ e ?_
  ·rintro b hb (h|⟨n,h⟩)
   ·have h:b=C:=h;obtain⟨_,o,ho⟩:=S.fresh b hb;rw[h,hC₀]at ho;cases ho
   ·refine z11 (hcells n b h) fun o ho=>?_;rw[(S.fresh b hb).1]at ho;cases ho
  ·intro hb;obtain⟨_,o,ho⟩:=S.fresh D hb;rw[hD₀]at ho;cases ho
  ·intro n hn;refine z11 (hcells n D hn) fun o ho=>?_;rw[dead _ hD₀]at ho;cases ho
  ·rintro σ₂ ι' s' vs n X hok rfl G hDv q hDi';have hCt:∀vs n,s'.heap.get? C≠some (G4 vs n):=fun vs n e=>G.tups _ _ _ e (.inl rfl);refine z12 G.ns fun m hnm _=>?_;have fin:=comp_fin (h':=s'.heap) (o:=.list acc) S Rl X hok (dead _ hC₀) (dead _ hD₀) G.locOut hDi' hCt (Heap.SameBut.refl _ _) ⟨vs,n,hDv,q.mono (fun _ _ _ e=>e) ⟨_,rfl⟩⟩ ⟨_,hDv⟩;have hlen:ι'.length=(src.free σ₂).length:=by have:=fin.rel.len;simpa using this
   refine hQ ι' s' C D m fin (.loc (by rw[←hlen];simp)) hnm ?_ (dead _ hC₀);intro hm;rcases Qh hm with h|h
   ·exact G.locOut h
   ·exact hDC (Q2 h).symm
 exact codeAny_compStart_list loop ((S.it A hh).self 0 _ _ _ st₀ loop)
theorem snd_lcomp2{Φ:Calls}{elt it it2:Ex}{x y:Nat}{kd k2:ItK}{env:Env}{eltP tx ty iter iter2:PySem.Expr}{scope:Scope}{pos:Pos}
 (hh:A.handled=none) (hsrc:Um prog w A B env kd false (evE Φ it) (eval iter env)) (hmx:mTg (.one x) tx=true) (hmy:mTg (.one y) ty=true) (hxy:x≠y) (ok:Yh env scope [x,y]) (hfold:∀x,foldedSetIterable iter env x=pure x)
 (h2:∀B',B.le B'→∀C,Um prog w A B' (Gc scope env C) k2 false (evE Φ it2) (eval iter2 (Gc scope env C))) (hf2:∀C v,foldedSetIterable iter2 (Gc scope env C) v=pure v) (he:∀B',B.le B'→∀C,G5 prog w A B' (Gc scope env C) (evE Φ elt) (eval eltP (Gc scope env C))):
 G5 prog w A B env (evE Φ (.lcomp2 elt x kd it y k2 it2)) (eval (.ListComp eltP [⟨tx,iter,[],0⟩,⟨ty,iter2,[],0⟩] scope pos) env):=by
 intro ι σ s ρ v σ' Q E R F e h;refine cps fun qG qK=>?_;refine bnP e fun v₁ σ₁ hit e=>?_;refine bnP e fun src σ₂ hmk e=>?_;refine bnP e fun acc σ₃ hl e=>?_;have h:=h.si e;refine qK ?_;show wpAny _ _ (comprehension (.ListComp eltP [⟨tx,iter,[],0⟩,⟨ty,iter2,[],0⟩] scope pos) scope env (firstIterPos [⟨tx,iter,[],0⟩,⟨ty,iter2,[],0⟩] pos) (newList []) false (eval iter env)) _ _ _;refine wpAny_comprehension_free rfl hfold (Jw fun n hn=>Option.isSome_iff_exists.mp (ok.free n hn).2) ok.kind ok.names ?_;refine hsrc ι σ s ρ v₁ σ₁ src σ₂ _ _ R F hit hmk fun ι₁ s₁ B' I s' fp wr St X S=>?_;refine l2_core hh S X.rel (F.ext' R X) hmx hmy hxy ok (h2 B' S.le) hf2 (fun C B₂ hle=>he B₂ (fun b o e=>hle _ _ (S.le b o e)) C) hl fun ι' s₂ C D m Y r hn hC hC0=>?_;refine⟨m,hn,fun h' hs=>?_⟩;refine zA2 (post_wide X.rel Y r hn hC hC0 hs) fun Y' r'=>?_;exact h _ _ _ (X.trans Y') r'
theorem J8.asgL2{N:Nat}{z:Nat}{elt it it2:Ex}{x y:Nat}{kd k2:ItK}{eltP tx ty iter iter2:PySem.Expr}{scope:Scope}{py pos spos:Pos}
 (hh:A.handled=none) (hsw:swapsWith (.ListComp eltP [⟨tx,iter,[],0⟩,⟨ty,iter2,[],0⟩] scope pos) (some (.Name (nm z) py)) spos.line env=pure true) (hy:z<56∧env.kindOf (nm z)=some .local)
 (hsrc:Um prog w A B env kd false (evE Φ it) (eval iter env)) (hmx:mTg (.one x) tx=true) (hmy:mTg (.one y) ty=true) (hxy:x≠y) (ok:Yh env scope [x,y]) (hfold:∀x,foldedSetIterable iter env x=pure x)
 (h2:∀B',B.le B'→∀C,Um prog w A B' (Gc scope env C) k2 false (evE Φ it2) (eval iter2 (Gc scope env C))) (hf2:∀C v,foldedSetIterable iter2 (Gc scope env C) v=pure v) (he:∀B',B.le B'→∀C,G5 prog w A B' (Gc scope env C) (evE Φ elt) (eval eltP (Gc scope env C))):
 J8 prog w A B env (exS Φ N (.asg z (.lcomp2 elt x kd it y k2 it2))) (exec (.Assign [.Name (nm z) py] (.ListComp eltP [⟨tx,iter,[],0⟩,⟨ty,iter2,[],0⟩] scope pos) spos) env):=fun ι σ s ρ fl ρ' σ' Q E R F e h=>by
 refine cps fun qG qK=>?_;refine bnE e fun p0 e0 e=>?_;obtain⟨rfl,rfl,rfl⟩:=si3 e;refine bnP e0 fun v₁ σ₁ hit e0=>?_;refine bnP e0 fun src σ₂ hmk e0=>?_;refine bnP e0 fun acc σ₃ hl e0=>?_;refine qK ?_;cases e0;rw[exec_Assign_Name_used _ _ _ _ hsw];refine Qt (wpAny_standAt (Qt ?_));show wpAny _ A (do let _ ←comprehension (.ListComp eltP [⟨tx,iter,[],0⟩,⟨ty,iter2,[],0⟩] scope pos) scope env (firstIterPos [⟨tx,iter,[],0⟩,⟨ty,iter2,[],0⟩] pos) (newList []) false (eval iter env) (some (assign (.Name (nm z) py) env))) _ _ s;refine Qt (wpAny_mono (wpAny_comprehension_free (use:=some (assign (.Name (nm z) py) env)) (Q:=fun _ s'=>Q .next s') rfl hfold (Jw fun n hn=>Option.isSome_iff_exists.mp (ok.free n hn).2) ok.kind ok.names ?_) (fun _ s' hq=>Qu (Qu hq)) fun _ _ e=>e);refine hsrc ι σ s ρ v₁ σ₁ src σ₂ _ _ R F hit hmk fun ι₁ s₁ B' I s' fp wr St X S=>?_;refine l2_core hh S X.rel (F.ext' R X) hmx hmy hxy ok (h2 B' S.le) hf2 (fun C B₂ hle=>he B₂ (fun b o e=>hle _ _ (S.le b o e)) C) hl fun ι' s₂ C D m Y r hn hC hC0=>?_;show wpAny _ A (assign (.Name (nm z) py) env (.ref D)) _ _ _;have XY:=X.trans Y;have F₂:=F.ext' R XY;refine wpAny_assign_Name (F₂.store XY.rel ⟨hy.1,.inl hy.2⟩ r fun s₃ Z F₃=>?_);have hCo:¬own env C:=fun ho=>by
  refine z11 ((F.ext' R X).ownLive C ho) fun o ho'=>?_;rw[hC0]at ho';cases ho'
 have hn₃:s₃.heap.Ns C m:=by
  refine z32 hn fun o es ep e' r'=>?_;exact⟨o,es,ep,Z.keep C o e' hC hCo,r'⟩
 refine⟨m,hn₃,fun h' hs=>?_⟩;have hnt:∀vs n,s₃.heap.get? C≠some (G4 vs n):=fun vs n e=>by
  refine z33 hn₃ fun o es ep e' hd _=>?_;rw[e]at e';cases e';cases hd
 have hk:∀b o,b∉[C]→s₃.heap.get? b=some o→h'.get? b=some o:=fun b o hb e=>(hs.2 b fun h=>hb (by rw[h];simp)).trans e;have hCs:s.heap.get? C=none:=by
  cases e:s.heap.get? C with
  |none=>rfl
  |some o=>obtain⟨o',e'⟩:=X.live _ _ e;rw[hC0]at e';cases e'
 have hBn:B.get? C=none:=by
  cases e:B.get? C with
  |none=>rfl
  |some o=>have:=R.base _ _ e;rw[hCs]at this;cases this
 have W:=(XY.weak.trans Z).wide (W:=[C]) (h':=h') (tk:=s₃.toks) (fun b hb=>by rw[Q2 hb];exact hCs) (fun b hb=>by rw[Q2 hb];exact hBn) (fun b hb=>by rw[Q2 hb];exact hC) (fun b hb vs n=>by rw[Q2 hb];exact hnt vs n) hk;refine h _ _ _ W (F₃.wide (fun b hb o e=>hk b o (fun h=>hCo (by rw[←Q2 h];exact hb)) e) fun a vs n e=>hk a _ (fun h=>hnt vs n (by rw[←Q2 h];exact e)) e) .next
end
abbrev NS:=List (Str×NameKind)
structure Ui(ns:NS)(env:Env):Prop where
 names:env.scope.names=ns
 kind:env.scope.kind=.function
 cell:∀n,ns.lookup n=some .cell→(env.cells.lookup n).isSome=true
theorem Ui.kof{ns:NS}{env:Env}(S:Ui ns env)(n:Str):env.kindOf n=ns.lookup n:=by
 show env.scope.names.lookup n=_;rw[S.names]
noncomputable def relS(sn ns:NS):NS:=sn.map fun x=>if x.2=.free∧ns.lookup x.1=some .cell then(x.1,.cell)else x
theorem nm_ndot:∀x,x<56→nm x≠Str.ofString ".0" :=by decide+kernel
noncomputable def compB(ns:NS)(scope:Scope)(xs:List Nat):Bool:=
 decide (scope.kind=.function)&&(decide ((scope.names.map (·.1)).Nodup)&&((scope.names.all fun x=>decide (x.2≠.cell∧(x.2=.local→x.1∈xs.map nm∨x.1=Str.ofString ".0")∧(x.2=.free→ns.lookup x.1=some .cell)))&&xs.all fun x=>decide (x<56∧scope.names.lookup (nm x)=some .local)))
theorem Ui.comp{ns:NS}{env:Env}{scope:Scope}{xs:List Nat}(S:Ui ns env)(h:compB ns scope xs=true):Yh env scope xs∧∀C,Ui (relS scope.names ns) (Gc scope env C):=by
 simp only[compB,Qc,Q9,List.all_eq_true]at h;refine zA4 h fun h1 h2 h3 h4=>?_;have ok:Yh env scope xs:=
  {
   kind:=h1,nodup:=h2,nocell:=fun x hx=>(h3 x hx).1,loc:=fun n hn=>((h3 _ hn).2.1 rfl).imp id fun e x hx h=>nm_ndot x hx (h.trans e),
   free:=fun n hn=>by
    have:=(h3 _ hn).2.2 rfl;exact⟨by rw[S.kof];exact this,S.cell n this⟩
   tgt:=fun x hx=>h4 x hx}
 have hrel:∀C,(Gc scope env C).scope.names=relS scope.names ns:=fun C=>by
  show scope.names.map _=scope.names.map _;refine List.map_congr_left fun x hx=>?_;obtain⟨n,kd⟩:=x;show(if(kd==NameKind.free&&env.scope.kind== .function&&env.kindOf n==some .cell)=true then(n,NameKind.cell)else(n,kd))=if kd=.free∧ns.lookup n=some .cell then(n,.cell)else(n,kd)
  rw[S.kind,S.kof];by_cases hc:kd=.free∧ns.lookup n=some .cell
  ·rw[if_pos hc,if_pos (by simp[hc.1,hc.2])]
  ·rw[if_neg hc,if_neg (by
    intro hh;simp only[Qc,beq_iff_eq]at hh;exact hc ⟨hh.1.1,hh.2⟩)]
 refine⟨ok,fun C=>⟨hrel C,h1,fun n hn=>?_⟩⟩;have hk:(Gc scope env C).kindOf n=some .cell:=by
  show(Gc scope env C).scope.names.lookup n=_;rw[hrel];exact hn
 obtain⟨k0,hm,h0|⟨h0,_⟩⟩:=Ul hk
 ·subst h0;exact absurd rfl (ok.nocell _ hm)
 ·subst h0;refine z11 (Option.isSome_iff_exists.mp (ok.free n hm).2) fun c hc=>?_;exact lookup_isSome (clOf_has (cs:=[]) hm hc)
noncomputable def varB(ns:NS)(x:Nat):Bool:=decide (ns.lookup (nm x)=some .local∨ns.lookup (nm x)=some .cell∨ns.lookup (nm x)=some .free)
noncomputable def globB(ns:NS)(n:Str):Bool:=decide (ns.lookup n=some .globalImplicit∧(n==("__debug__" :Str))=false)
noncomputable def canB(ns:NS)(x:Nat):Bool:=decide (x<56∧(ns.lookup (nm x)=some .local∨ns.lookup (nm x)=some .cell))
theorem Ui.can{ns:NS}{env:Env}{x:Nat}(S:Ui ns env)(h:canB ns x=true):Y9 env x:=by
 simp only[canB,Q9]at h;refine⟨h.1,h.2.imp (fun e=>by rw[S.kof];exact e) fun e=>⟨by rw[S.kof];exact e,S.cell _ e⟩⟩
noncomputable def Zt:PySem.Expr→List PySem.Expr
 |.BoolOp _ l _=>l
 |.BinOp a _ b _=>[a,b]
 |.UnaryOp _ a _=>[a]
 |.IfExp t a b _=>[t,a,b]
 |.ListComp e gens _ _=>e::gens.flatMap fun g=>g.target::g.iter::g.ifs
 |.DictComp k v gens _ _=>k::v::gens.flatMap fun g=>g.target::g.iter::g.ifs
 |.Compare a _ bs _=>a::bs
 |.Call f args _ _=>f::args
 |.Attribute o _ _=>[o]
 |.Subscript a b _=>[a,b]
 |.List l _=>l
 |.Tuple l _ _=>l
 |.Slice lo hi st _=>lo.toList++(hi.toList++st.toList)
 |_=>[]
noncomputable def kid(i:Nat)(e:PySem.Expr):PySem.Expr:=(Zt e).getD i default
noncomputable def numE:PySem.Expr→Nat
 |.Constant _ k _=>k
 |.Tuple _ k _=>k
 |_=>0
noncomputable def Yx:PySem.Expr→Scope
 |.ListComp _ _ s _=>s
 |.DictComp _ _ _ s _=>s
 |_=>default
noncomputable def easyObj:PySem.Expr→Bool
 |.Name .. =>true
 |.Subscript .. =>true
 |_=>false
theorem easyObj_base{e:PySem.Expr}{n:Str}{env:Env}{whole:Sem Value}(h:easyObj e=true):attributeBase e n env whole=whole:=by
 cases e<;>first|rfl|cases h
noncomputable def manyK:ItK→Bool
 |.plain=>false|.range=>false|.enum=>true|.items=>true
noncomputable def kI:ItK→PySem.Expr→PySem.Expr
 |.plain,e=>e
 |.range,e=>kid 1 e
 |.enum,e=>kid 1 e
 |.items,e=>kid 0 (kid 0 e)
noncomputable def RI:ItK→PySem.Expr→PySem.Expr→PySem.Expr
 |.plain,_,x=>x
 |.range,e,x=>.Call (.Name rangeNm (kid 0 e).pos) [x] [] e.pos
 |.enum,e,x=>.Call (.Name enumNm (kid 0 e).pos) [x] [] e.pos
 |.items,e,x=>.Call (.Attribute x (Str.ofString "items") (kid 0 e).pos) [] [] e.pos
noncomputable def okSrc:ItK→NS→PySem.Expr→PySem.Expr→Bool
 |.plain,_,_,_=>true
 |.range,ns,_,_=>globB ns rangeNm
 |.enum,ns,_,_=>globB ns enumNm
 |.items,_,e,x=>(kid 0 e).pos.endLine==e.pos.line&&easyObj x
theorem G3{a b:Bool}(h:(a&&b)=true):a=true∧b=true:=by cases a<;>cases b<;>first|exact⟨rfl,rfl⟩|cases h
theorem notb{c:Bool}(h:(!c)=true):c=false:=by cases c;rfl;cases h
theorem Uv{a b:Bool}(h:(!a&&b)=true):a=false∧b=true:=⟨notb (G3 h).1,(G3 h).2⟩
structure Hy(prog:Program)(w:World)(A:Around)(B:Bas)(Φ:Calls)(fa:Nat→Addr)(fd:Nat→FuncData)(k:Nat):Prop where
 rm:Yj A k
 bs:Bs prog B
 G:Gl B
 fs:Fs B fa fd
 fn:∀B',B.le B'→SndF prog w A B' fa Φ
section
variable{prog:Program}{w:World}{A:Around}{E:Value→Shared→Prop}{B:Bas}{σ:Sto}{ι:List Addr}{s:Shared}{k:Nat}{env:Env}{Φ:Calls}{fa:Nat→Addr}{fd:Nat→FuncData}
theorem Hy.raise{B':Bas}(H:Hy prog w A B Φ fa fd k)(hle:B.le B'):Hy prog w A B' Φ fa fd k where
 rm:=H.rm
 bs:=H.bs.raise hle
 G:=H.G.raise hle
 fs:=H.fs.raise hle
 fn:=fun B'' h=>H.fn B'' fun b o e=>h _ _ (hle _ _ e)
theorem src_of{kd:ItK}{ns:NS}{iter eP:PySem.Expr}{it:Ex}(H:Hy prog w A B Φ fa fd k)(S:Ui ns env)(h:okSrc kd ns iter eP=true)(hst:starEach [eP] env=[(false,eval eP env)])(hfo:∀x,foldedSetIterable eP env x=pure x)(h1:G5 prog w A B env (evE Φ it) (eval eP env)):
 Um prog w A B env kd (manyK kd) (evE Φ it) (eval (RI kd iter eP) env)∧∀x,foldedSetIterable (RI kd iter eP) env x=pure x:=by
 cases kd with
 |plain=>exact⟨Um.plain H.bs.two h1,hfo⟩
 |range=>exact⟨Um.range H.G (by rw[S.kof];exact(of_decide_eq_true h).1) hst h1,fun _=>rfl⟩
 |enum=>exact⟨Um.enum H.G H.bs.two (by rw[S.kof];exact(of_decide_eq_true h).1) hst h1,fun _=>rfl⟩
 |items=>exact⟨Um.items H.bs.two (easyObj_base (G3 h).2) (G3 h).1 h1,fun _=>rfl⟩
end
mutual
noncomputable def RX:Ex→PySem.Expr→PySem.Expr
 |.none,e=>.Constant .none (numE e) e.pos
 |.bool b,e=>.Constant (.bool b) (numE e) e.pos
 |.int i,e=>.Constant (.int i) (numE e) e.pos
 |.str j,e=>.Constant (.str (snm j)) (numE e) e.pos
 |.var x,e=>.Name (nm x) e.pos
 |.glob g,e=>.Name (gnm g) e.pos
 |.tup es,e=>.Tuple (RXs es (Zt e)) (numE e) e.pos
 |.lst es,e=>.List (RXs es (Zt e)) e.pos
 |.dict0,e=>.Dict [] [] e.pos
 |.bin op a b,e=>.BinOp (RX a (kid 0 e)) (bopOf op) (RX b (kid 1 e)) e.pos
 |.neg a,e=>.UnaryOp .USub (RX a (kid 0 e)) e.pos
 |.not a,e=>.UnaryOp .Not (RX a (kid 0 e)) e.pos
 |.and es,e=>.BoolOp .And (RXs es (Zt e)) e.pos
 |.or es,e=>.BoolOp .Or (RXs es (Zt e)) e.pos
 |.cmp op a b,e=>.Compare (RX a (kid 0 e)) [copOf op] [RX b (kid 1 e)] e.pos
 |.ite t a b,e=>.IfExp (RX t (kid 0 e)) (RX a (kid 1 e)) (RX b (kid 2 e)) e.pos
 |.sub a b,e=>.Subscript (RX a (kid 0 e)) (RX b (kid 1 e)) e.pos
 |.slice a lo hi,e=>.Subscript (RX a (kid 0 e)) (.Slice (RO lo (kid 0 (kid 1 e))) (RO hi ((Zt (kid 1 e)).getLastD default)) none (kid 1 e).pos) e.pos
 |.rev a,e=>.Subscript (RX a (kid 0 e)) (.Slice none none (some (.UnaryOp .USub (.Constant (.int 1) (numE (kid 0 (kid 0 (kid 1 e)))) (kid 0 (kid 0 (kid 1 e))).pos) (kid 0 (kid 1 e)).pos)) (kid 1 e).pos) e.pos
 |.call f es,e=>.Call (.Name (fnm f) (kid 0 e).pos) (RXs es (Zt e).tail) [] e.pos
 |.prim p es,e=>.Call (.Name (primNm p) (kid 0 e).pos) (RXs es (Zt e).tail) [] e.pos
 |.meth m o es,e=>.Call (.Attribute (RX o (kid 0 (kid 0 e))) (methName m) (kid 0 e).pos) (RXs es (Zt e).tail) [] e.pos
 |.lcomp elt t k it cond,e=>.ListComp (RX elt (kid 0 e)) [⟨kid 1 e,RI k (kid 2 e) (RX it (kI k (kid 2 e))),RC cond ((Zt e).drop 3),0⟩] (Yx e) e.pos
 |.lcomp2 elt x k it y k2 it2,e=>.ListComp (RX elt (kid 0 e)) [⟨kid 1 e,RI k (kid 2 e) (RX it (kI k (kid 2 e))),[],0⟩,⟨kid 3 e,RI k2 (kid 4 e) (RX it2 (kI k2 (kid 4 e))),[],0⟩] (Yx e) e.pos
 |.dcomp key val x it,e=>.DictComp (RX key (kid 0 e)) (RX val (kid 1 e)) [⟨kid 2 e,RX it (kid 3 e),[],0⟩] (Yx e) e.pos
noncomputable def RXs:Exs→List PySem.Expr→List PySem.Expr
 |.nil,_=>[]
 |.cons x xs,l=>RX x (l.headD default)::RXs xs l.tail
noncomputable def RO:Opt→PySem.Expr→Option PySem.Expr
 |.no,_=>none
 |.yes x,e=>some (RX x e)
noncomputable def RC:Opt→List PySem.Expr→List PySem.Expr
 |.no,_=>[]
 |.yes x,l=>[RX x (l.headD default)]
end
mutual
noncomputable def okX:Ex→Bool→NS→PySem.Expr→Bool
 |.none,c,_,_=>!c
 |.bool _,c,_,_=>!c
 |.int _,c,_,_=>!c
 |.str j,c,_,_=>!c&&decide (j<3)
 |.var x,c,ns,_=>!c&&varB ns x
 |.glob g,c,ns,_=>!c&&globB ns (gnm g)
 |.tup es,c,ns,e=>!c&&(decide (es.size<1000)&&okXs es false ns (Zt e))
 |.lst es,c,ns,e=>!c&&(decide (es.size<1000)&&okXs es false ns (Zt e))
 |.dict0,c,_,_=>!c
 |.bin _ a b,c,ns,e=>!c&&(okX a false ns (kid 0 e)&&okX b false ns (kid 1 e))
 |.neg a,c,ns,e=>!c&&okX a false ns (kid 0 e)
 |.not a,c,ns,e=>c&&okX a true ns (kid 0 e)
 |.and es,c,ns,e=>okXs es c ns (Zt e)
 |.or es,c,ns,e=>okXs es c ns (Zt e)
 |.cmp op a b,_,ns,e=>!behindInMarks (copOf op) (RX b (kid 1 e))&&(okX a false ns (kid 0 e)&&okX b false ns (kid 1 e))
 |.ite t a b,c,ns,e=>!c&&(okX t true ns (kid 0 e)&&(okX a false ns (kid 1 e)&&okX b false ns (kid 2 e)))
 |.sub a b,c,ns,e=>!c&&(okX a false ns (kid 0 e)&&okX b false ns (kid 1 e))
 |.slice a lo hi,c,ns,e=>!c&&(okX a false ns (kid 0 e)&&(okO lo false ns (kid 0 (kid 1 e))&&okO hi false ns ((Zt (kid 1 e)).getLastD default)))
 |.rev a,c,ns,e=>!c&&okX a false ns (kid 0 e)
 |.call f es,_,ns,e=>decide (f<45)&&(globB ns (fnm f)&&okXs es false ns (Zt e).tail)
 |.prim p es,_,ns,e=>globB ns (primNm p)&&okXs es false ns (Zt e).tail
 |.meth _ o es,c,ns,e=>!c&&(decide ((RXs es (Zt e).tail).length+0+0<30)&&(easyObj (RX o (kid 0 (kid 0 e)))&&((kid 0 e).pos.endLine==e.pos.line&&(okX o false ns (kid 0 (kid 0 e))&&okXs es false ns (Zt e).tail))))
 |.lcomp elt t k it cond,c,ns,e=>!c&&(compB ns (Yx e) t.vars&&(mTg t (kid 1 e)&&((!manyK k||Z6 (kid 1 e))&&(okO cond true (relS (Yx e).names ns) (((Zt e).drop 3).headD default)&&(okX elt false (relS (Yx e).names ns) (kid 0 e)&&(okSrc k ns (kid 2 e) (RX it (kI k (kid 2 e)))&&okX it false ns (kI k (kid 2 e))))))))
 |.lcomp2 elt x k it y k2 it2,c,ns,e=>!c&&(compB ns (Yx e) [x,y]&&(mTg (.one x) (kid 1 e)&&(mTg (.one y) (kid 3 e)&&(decide (x≠y∧manyK k=false∧manyK k2=false)&&(okX elt false (relS (Yx e).names ns) (kid 0 e)&&((okSrc k ns (kid 2 e) (RX it (kI k (kid 2 e)))&&okX it false ns (kI k (kid 2 e)))&&(okSrc k2 (relS (Yx e).names ns) (kid 4 e) (RX it2 (kI k2 (kid 4 e)))&&okX it2 false (relS (Yx e).names ns) (kI k2 (kid 4 e)))))))))
 |.dcomp key val x it,c,ns,e=>!c&&(compB ns (Yx e) [x]&&(mTg (.one x) (kid 2 e)&&(okX key false (relS (Yx e).names ns) (kid 0 e)&&(okX val false (relS (Yx e).names ns) (kid 1 e)&&okX it false ns (kid 3 e)))))
noncomputable def okXs:Exs→Bool→NS→List PySem.Expr→Bool
 |.nil,_,_,_=>true
 |.cons x xs,c,ns,l=>okX x c ns (l.headD default)&&okXs xs c ns l.tail
noncomputable def okO:Opt→Bool→NS→PySem.Expr→Bool
 |.no,_,_,_=>true
 |.yes x,c,ns,e=>okX x c ns e
end
section
variable{prog:Program}{w:World}{A:Around}{Φ:Calls}{fa:Nat→Addr}{fd:Nat→FuncData}{k:Nat}
noncomputable def Snd(prog:Program)(w:World)(A:Around)(B:Bas)(env:Env)(Φ:Calls)(x:Ex)(e:PySem.Expr):Bool→Prop
 |false=>G5 prog w A B env (evE Φ x) (eval e env)
 |true=>Y4 prog w A B env (evT (evE Φ x)) (isTrue e env (eval e env))
theorem Yj.u8(rm:Yj A k):A.units+8<cLine:=by have:=rm.u;exact Jl (Y6 _ _ _) 1 (.add (.var 0) (.num 8)) (.var 1) [Ge 1 (.add (.add (.var 0) (.mulL 3 (.var 2))) (.num 100)) (.var 1)] rfl this
theorem Un{x:Ex}{e:PySem.Expr}{es:List PySem.Expr}{env:Env}:starEach (RX x e::es) env=(false,eval (RX x e) env)::starEach es env:=by cases x<;>rfl
theorem Zb{x:Ex}{e:PySem.Expr}{env:Env}(v:Value):foldedSetIterable (RX x e) env v=pure v:=by cases x<;>rfl
theorem RXs_star{pos:Pos}{env:Env}:∀(xs:Exs) (l:List PySem.Expr),(backTo pos (starEach (RXs xs l) env)).all (fun x=>!x.1)=true
 |.nil,_=>rfl
 |.cons x xs,l=>by
  show(backTo pos (starEach (RX x _::_) env)).all _=true;rw[Un];exact RXs_star xs l.tail
theorem manyOr{b t:Bool}(h:(!b||t)=true)(hb:b=true):t=true:=by subst hb;exact h
mutual
theorem sX:∀(x:Ex) {B:Bas} {c:Bool} {ns:NS} {env:Env} {e:PySem.Expr},Hy prog w A B Φ fa fd k→Ui ns env→okX x c ns e=true→Snd prog w A B env Φ x (RX x e) c
 |.none,B,c,ns,env,e,H,S,h=>by obtain rfl:=notb h;exact G5.none
 |.bool b,B,c,ns,env,e,H,S,h=>by obtain rfl:=notb h;exact G5.bool
 |.int b,B,c,ns,env,e,H,S,h=>by obtain rfl:=notb h;exact G5.int
 |.str b,B,c,ns,env,e,H,S,h=>by
  have g:=Uv h;clear h;obtain⟨rfl,h⟩:=g;exact G5.str (of_decide_eq_true h)
 |.var x,B,c,ns,env,e,H,S,h=>by
  have g:=Uv h;clear h;obtain⟨rfl,h⟩:=g;exact G5.var (by rw[S.kof];exact of_decide_eq_true h)
 |.glob g,B,c,ns,env,e,H,S,h=>by
  have g:=Uv h;clear h;obtain⟨rfl,h⟩:=g;exact G5.glob H.G (by rw[S.kof];exact(of_decide_eq_true h).1) (of_decide_eq_true h).2
 |.tup es,B,c,ns,env,e,H,S,h=>by
  have g:=Uv h;clear h;obtain⟨rfl,h⟩:=g;exact G5.tup (of_decide_eq_true (G3 h).1) (sXs es H S (G3 h).2)
 |.lst es,B,c,ns,env,e,H,S,h=>by
  have g:=Uv h;clear h;obtain⟨rfl,h⟩:=g;exact G5.lst (of_decide_eq_true (G3 h).1) (sXs es H S (G3 h).2)
 |.dict0,B,c,ns,env,e,H,S,h=>by obtain rfl:=notb h;exact G5.dict0
 |.bin op a b,B,c,ns,env,e,H,S,h=>by
  have g:=Uv h;clear h;obtain⟨rfl,h⟩:=g;exact G5.bin H.bs H.rm (sX a H S (G3 h).1) (sX b H S (G3 h).2)
 |.neg a,B,c,ns,env,e,H,S,h=>by
  have g:=Uv h;clear h;obtain⟨rfl,h⟩:=g;exact G5.neg (sX a H S h)
 |.not a,B,c,ns,env,e,H,S,h=>by
  have g:=G3 h;clear h;obtain⟨rfl,h⟩:=g;exact Y4.not (sX a H S h)
 |.and es,B,c,ns,env,e,H,S,h=>by
  cases c with
  |false=>exact G5.and (sAll es H S h)
  |true=>exact Y4.and (sAll es H S h)
 |.or es,B,c,ns,env,e,H,S,h=>by
  cases c with
  |false=>exact G5.or (sAll es H S h)
  |true=>exact Y4.or (sAll es H S h)
 |.cmp op a b,B,c,ns,env,e,H,S,h=>by
  refine zA2 (G3 h) fun h0 g=>?_;cases c with
  |false=>exact G5.cmp H.bs H.rm (notb h0) (sX a H S (G3 g).1) (sX b H S (G3 g).2)
  |true=>exact Y4.cmp H.bs H.rm (notb h0) (sX a H S (G3 g).1) (sX b H S (G3 g).2)
 |.ite t a b,B,c,ns,env,e,H,S,h=>by
  have g:=Uv h;clear h;obtain⟨rfl,h⟩:=g;exact G5.ite (sX t H S (G3 h).1) (sX a H S (G3 (G3 h).2).1) (sX b H S (G3 (G3 h).2).2)
 |.sub a b,B,c,ns,env,e,H,S,h=>by
  have g:=Uv h;clear h;obtain⟨rfl,h⟩:=g;exact G5.sub H.bs H.rm (Uf _) (sX a H S (G3 h).1) (sX b H S (G3 h).2)
 |.slice a lo hi,B,c,ns,env,e,H,S,h=>by
  have g:=Uv h;clear h;obtain⟨rfl,h⟩:=g;exact G5.slice (sX a H S (G3 h).1) (sO lo H S (G3 (G3 h).2).1) (sO hi H S (G3 (G3 h).2).2)
 |.rev a,B,c,ns,env,e,H,S,h=>by
  have g:=Uv h;clear h;obtain⟨rfl,h⟩:=g;exact G5.rev (sX a H S h)
 |.call f es,B,c,ns,env,e,H,S,h=>by
  refine zA2 (G3 h) fun h1 h=>?_;refine zA2 (G3 h) fun h2 h=>?_;have a:G5 prog w A B env (evE Φ (.call f es)) (eval (RX (.call f es) e) env):=
   G5.call H.fs (of_decide_eq_true h1) (by rw[S.kof];exact(of_decide_eq_true h2).1) (of_decide_eq_true h2).2 (RXs_star es _) (H.fn B fun _ _ e=>e) (sXs es H S h)
  cases c with
  |false=>exact a
  |true=>exact Y4.value rfl a
 |.prim p es,B,c,ns,env,e,H,S,h=>by
  refine zA2 (G3 h) fun h2 h=>?_;have a:G5 prog w A B env (evE Φ (.prim p es)) (eval (RX (.prim p es) e) env):=
   G5.primCall H.G H.bs H.rm (by rw[S.kof];exact(of_decide_eq_true h2).1) (RXs_star es _) (sXs es H S h)
  cases c with
  |false=>exact a
  |true=>exact Y4.value rfl a
 |.meth m o es,B,c,ns,env,e,H,S,h=>by
  have g:=Uv h;clear h;obtain⟨rfl,h⟩:=g;refine zA2 (G3 h) fun h1 h=>?_;refine zA2 (G3 h) fun h2 h=>?_;refine zA2 (G3 h) fun h3 h=>?_;refine G5.meth H.bs H.rm (easyObj_base h2) ?_ h3 (sX o H S (G3 h).1) (sXs es H S (G3 h).2);rw[RXs_star];exact h1
 |.lcomp elt t kd it cond,B,c,ns,env,e,H,S,h=>by
  have g:=Uv h;clear h;obtain⟨rfl,h⟩:=g;refine cps fun qG qK=>?_;refine zA2 (G3 h) fun h1 h=>?_;refine zA2 (G3 h) fun h2 h=>?_;refine zA2 (G3 h) fun h3 h=>?_;refine zA2 (G3 h) fun h4 h=>?_;refine zA2 (G3 h) fun h5 h=>?_;refine zA2 (S.comp h1) fun ok SC=>?_;refine zA2 (src_of H S (G3 h).1 Un Zb (sX it H S (G3 h).2)) fun hI hF=>?_;refine qK ?_;exact snd_lcomp H.rm.h hI h2 (manyOr h3) ok hF (fun B' hle C=>sI cond (H.raise hle) (SC C) h4) (fun B' hle C=>sX elt (H.raise hle) (SC C) h5)
 |.lcomp2 elt x kd it y k2 it2,B,c,ns,env,e,H,S,h=>by
  have g:=Uv h;clear h;obtain⟨rfl,h⟩:=g;refine cps fun qG qK=>?_;refine zA2 (G3 h) fun h1 h=>?_;refine zA2 (G3 h) fun h2 h=>?_;refine zA2 (G3 h) fun h3 h=>?_;refine zA2 (G3 h) fun h4 h=>?_;refine zA2 (G3 h) fun h5 h=>?_;refine zA3 (of_decide_eq_true h4) fun hxy hk hk2=>?_;refine zA2 (S.comp h1) fun ok SC=>?_;refine zA2 (src_of H S (G3 (G3 h).1).1 Un Zb (sX it H S (G3 (G3 h).1).2)) fun hI hF=>?_;refine qK ?_;have hI2:=fun B' hle C=>src_of (H.raise (B':=B') hle) (SC C) (G3 (G3 h).2).1 Un Zb (sX it2 (H.raise hle) (SC C) (G3 (G3 h).2).2);exact snd_lcomp2 H.rm.h (hk▸hI) h2 h3 hxy ok hF (fun B' hle C=>hk2▸(hI2 B' hle C).1) (fun C=>(hI2 B (fun _ _ e=>e) C).2) (fun B' hle C=>sX elt (H.raise hle) (SC C) h5)
 |.dcomp key val x it,B,c,ns,env,e,H,S,h=>by
  have g:=Uv h;clear h;obtain⟨rfl,h⟩:=g;refine zA2 (G3 h) fun h1 h=>?_;refine zA2 (G3 h) fun h2 h=>?_;refine zA2 (G3 h) fun h3 h=>?_;refine zA2 (S.comp h1) fun ok SC=>?_;exact snd_dcomp H.rm.h H.rm.u8 (Um.plain H.bs.two (sX it H S (G3 h).2)) h2 ok Zb (fun B' hle C=>sX key (H.raise hle) (SC C) h3) (fun B' hle C=>sX val (H.raise hle) (SC C) (G3 h).1)
theorem sXs:∀(es:Exs) {B:Bas} {ns:NS} {env:Env} {l:List PySem.Expr} {pos:Pos},Hy prog w A B Φ fa fd k→Ui ns env→okXs es false ns l=true→
 Za prog w A B env (Uc Φ es) (spliced (backTo pos (starEach (RXs es l) env)))
 |.nil,B,ns,env,l,pos,H,S,h=>Za.nil
 |.cons x xs,B,ns,env,l,pos,H,S,h=>Za.cons Un (sX x H S (G3 h).1) (sXs xs H S (G3 h).2)
theorem sAll:∀(es:Exs) {B:Bas} {c:Bool} {ns:NS} {env:Env} {l:List PySem.Expr},Hy prog w A B Φ fa fd k→Ui ns env→okXs es c ns l=true→All (fun x e=>Snd prog w A B env Φ x e c) es (RXs es l)
 |.nil,B,c,ns,env,l,H,S,h=>trivial
 |.cons x xs,B,c,ns,env,l,H,S,h=>⟨sX x H S (G3 h).1,sAll xs H S (G3 h).2⟩
theorem sO:∀(o:Opt) {B:Bas} {ns:NS} {env:Env} {e:PySem.Expr},Hy prog w A B Φ fa fd k→Ui ns env→okO o false ns e=true→SndO prog w A B env (evO Φ o) (evalPart (RO o e) env)
 |.no,B,ns,env,e,H,S,h=>SndO.no
 |.yes x,B,ns,env,e,H,S,h=>SndO.yes (sX x H S h)
theorem sI:∀(o:Opt) {B:Bas} {ns:NS} {env:Env} {l:List PySem.Expr},Hy prog w A B Φ fa fd k→Ui ns env→okO o true ns (l.headD default)=true→Y4 prog w A B env (evC Φ o) (tests (RC o l) env)
 |.no,B,ns,env,l,H,S,h=>Y4.noTest
 |.yes x,B,ns,env,l,H,S,h=>Y4.oneTest (sX x H S h)
end
end
noncomputable def E0(ns:NS):Env:={(default:Env)with scope:={(default:Scope)with kind:=.function,names:=ns}}
noncomputable def Ux{α:Type}:Sem α→Option α
 |.pure a=>some a
 |_=>none
theorem isPure_ok{α:Type}{m:Sem α}{r:α}(h:Ux m=some r):m=pure r:=by
 cases m with
 |pure a=>cases h;rfl
 |_=>cases h
theorem Ui.kindE{ns:NS}{env:Env}(S:Ui ns env):env.kindOf=(E0 ns).kindOf:=funext fun n=>S.kof n
theorem Ui.blockE{ns:NS}{env:Env}(S:Ui ns env):env.blockKind=(E0 ns).blockKind:=by unfold Env.blockKind;rw[S.kind];rfl
theorem Ui.stores{ns:NS}{env:Env}{ts:List PySem.Expr}{e:PySem.Expr}{r:Option (List Str)}(S:Ui ns env)(h:Ux (swappedStores ts e (E0 ns))=some r):swappedStores ts e env=pure r:=by
 refine Eq.trans ?_ (isPure_ok h);unfold swappedStores;rw[S.kindE,S.blockE]
theorem Ui.swaps{ns:NS}{env:Env}{e:PySem.Expr}{t:Option PySem.Expr}{l:Nat}{r:Bool}(S:Ui ns env)(h:Ux (swapsWith e t l (E0 ns))=some r):swapsWith e t l env=pure r:=by
 refine Eq.trans ?_ (isPure_ok h);have hk:env.scope.kind=(E0 ns).scope.kind:=S.kind;unfold swapsWith;rw[S.kindE,S.blockE,hk]
noncomputable def kidsS:Stmt→List PySem.Expr
 |.Expr v _=>[v]
 |.Assign ts v _=>v::ts
 |.AugAssign t _ v _=>[v,t]
 |.If t _ _ _=>[t]
 |.While t _ _ _=>[t]
 |.For t i _ _ _=>[t,i]
 |.Return v _=>v.toList
 |_=>[]
noncomputable def kS(i:Nat)(s:Stmt):PySem.Expr:=(kidsS s).getD i default
noncomputable def bodyS:Stmt→List Stmt
 |.If _ b _ _=>b
 |.While _ b _ _=>b
 |.For _ _ b _ _=>b
 |_=>[]
noncomputable def elseS:Stmt→List Stmt
 |.If _ _ b _=>b
 |_=>[]
mutual
noncomputable def RS:St→Stmt→Stmt
 |.expr x,s=>.Expr (RX x (kS 0 s)) s.pos
 |.asg y x,s=>.Assign [.Name (nm y) (kS 1 s).pos] (RX x (kS 0 s)) s.pos
 |.asgT _ x,s=>.Assign [kS 1 s] (RX x (kS 0 s)) s.pos
 |.asgS a i x,s=>.Assign [.Subscript (RX a (kid 0 (kS 1 s))) (RX i (kid 1 (kS 1 s))) (kS 1 s).pos] (RX x (kS 0 s)) s.pos
 |.aug y x,s=>.AugAssign (.Name (nm y) (kS 1 s).pos) .Add (RX x (kS 0 s)) s.pos
 |.ite c a b,s=>.If (RX c (kS 0 s)) (RB a (bodyS s)) (RB b (elseS s)) s.pos
 |.loop c b,s=>.While (RX c (kS 0 s)) (RB b (bodyS s)) [] s.pos
 |.for _ k it b,s=>.For (kS 0 s) (RI k (kS 1 s) (RX it (kI k (kS 1 s)))) (RB b (bodyS s)) [] s.pos
 |.ret x,s=>.Return (some (RX x (kS 0 s))) s.pos
 |.cont,s=>.Continue s.pos
 |.stuck,s=>s
noncomputable def RB:Blk→List Stmt→List Stmt
 |.nil,_=>[]
 |.cons st b,l=>RS st (l.headD default)::RB b l.tail
end
noncomputable def isL:Ex→Bool
 |.lcomp .. =>true
 |.lcomp2 .. =>true
 |_=>false
mutual
noncomputable def okS:St→NS→Stmt→Bool
 |.expr x,ns,s=>decide (Ux (swapsWith (RX x (kS 0 s)) none s.pos.line (E0 ns))=some false)&&okX x false ns (kS 0 s)
 |.asg y x,ns,s=>canB ns y&&(okX x false ns (kS 0 s)&&decide (Ux (swapsWith (RX x (kS 0 s)) (some (.Name (nm y) (kS 1 s).pos)) s.pos.line (E0 ns))=some false∨(isL x=true∧y<56∧ns.lookup (nm y)=some .local∧Ux (swapsWith (RX x (kS 0 s)) (some (.Name (nm y) (kS 1 s).pos)) s.pos.line (E0 ns))=some true)))
 |.asgT xs x,ns,s=>mTg (.many xs) (kS 1 s)&&(xs.all (canB ns)&&(decide (xs.Nodup∧Ux (swapsWith (RX x (kS 0 s)) (some (kS 1 s)) s.pos.line (E0 ns))=some false)&&(okX x false ns (kS 0 s)&&decide (Ux (swappedStores [kS 1 s] (RX x (kS 0 s)) (E0 ns))=some none∨Ux (swappedStores [kS 1 s] (RX x (kS 0 s)) (E0 ns))=some (some (xs.map nm))))))
 |.asgS a i x,ns,s=>decide (Ux (swapsWith (RX x (kS 0 s)) (some (.Subscript (RX a (kid 0 (kS 1 s))) (RX i (kid 1 (kS 1 s))) (kS 1 s).pos)) s.pos.line (E0 ns))=some false)&&(okX x false ns (kS 0 s)&&(okX a false ns (kid 0 (kS 1 s))&&okX i false ns (kid 1 (kS 1 s))))
 |.aug y x,ns,s=>varB ns y&&(canB ns y&&okX x false ns (kS 0 s))
 |.ite c a b,ns,s=>okX c true ns (kS 0 s)&&(okB a ns (bodyS s)&&okB b ns (elseS s))
 |.loop c b,ns,s=>okX c true ns (kS 0 s)&&okB b ns (bodyS s)
 |.for t k it b,ns,s=>mTg t (kS 0 s)&&((!manyK k||Z6 (kS 0 s))&&(t.vars.all (canB ns)&&(okB b ns (bodyS s)&&(okSrc k ns (kS 1 s) (RX it (kI k (kS 1 s)))&&okX it false ns (kI k (kS 1 s))))))
 |.ret x,ns,s=>okX x false ns (kS 0 s)
 |.cont,_,_=>true
 |.stuck,_,_=>true
noncomputable def okB:Blk→NS→List Stmt→Bool
 |.nil,_,_=>true
 |.cons st b,ns,l=>okS st ns (l.headD default)&&okB b ns l.tail
end
theorem tup_of_many{xs:List Nat}{t:PySem.Expr}(h:mTg (.many xs) t=true):∃es kk p,t=.Tuple es kk p:=z32 (mT_many h) fun es kk p e _=>⟨es,kk,p,e⟩
section
variable{prog:Program}{w:World}{A:Around}{B:Bas}{env:Env}{Φ:Calls}{fa:Nat→Addr}{fd:Nat→FuncData}{k:Nat}
theorem sAsg{N:Nat}{y:Nat}{x:Ex}{ns:NS}{e:PySem.Expr}{p pos:Pos}(H:Hy prog w A B Φ fa fd k)(S:Ui ns env)(hx:okX x false ns e=true)(hl:isL x=true)(hy:y<56∧ns.lookup (nm y)=some .local)(hw:Ux (swapsWith (RX x e) (some (.Name (nm y) p)) pos.line (E0 ns))=some true):
 J8 prog w A B env (exS Φ N (.asg y x)) (exec (.Assign [.Name (nm y) p] (RX x e) pos) env):=by
 have hsw:=S.swaps hw;have hy':y<56∧env.kindOf (nm y)=some .local:=⟨hy.1,by rw[S.kof];exact hy.2⟩
 cases x with
 |lcomp elt t kd it cond=>
  have h:=G3 (G3 hx).2;have h1:=G3 h.2;have h2:=G3 h1.2;have h3:=G3 h2.2;have h4:=G3 h3.2;refine zA2 (S.comp h.1) fun ok SC=>?_;refine zA2 (src_of H S (G3 h4.2).1 Un Zb (sX it H S (G3 h4.2).2)) fun hI hF=>?_;exact J8.asgL H.rm.h hsw hy' hI h1.1 (manyOr h2.1) ok hF (fun B' hle C=>sI cond (H.raise hle) (SC C) h3.1) (fun B' hle C=>sX elt (H.raise hle) (SC C) h4.1)
 |lcomp2 elt x kd it z k2 it2=>
  have h:=G3 (G3 hx).2;have h1:=G3 h.2;have h2:=G3 h1.2;have h3:=G3 h2.2;have h4:=G3 h3.2;refine zA3 (of_decide_eq_true h3.1) fun hxy hk hk2=>?_;refine zA2 (S.comp h.1) fun ok SC=>?_;have h5:=G3 h4.2;refine zA2 (src_of H S (G3 h5.1).1 Un Zb (sX it H S (G3 h5.1).2)) fun hI hF=>?_;have hI2:=fun B' hle C=>src_of (H.raise (B':=B') hle) (SC C) (G3 h5.2).1 Un Zb (sX it2 (H.raise hle) (SC C) (G3 h5.2).2);exact J8.asgL2 H.rm.h hsw hy' (hk▸hI) h1.1 h2.1 hxy ok hF (fun B' hle C=>hk2▸(hI2 B' hle C).1) (fun C=>(hI2 B (fun _ _ e=>e) C).2) (fun B' hle C=>sX elt (H.raise hle) (SC C) h4.1)
 |_=>cases hl
end
section
variable{prog:Program}{w:World}{A:Around}{Φ:Calls}{fa:Nat→Addr}{fd:Nat→FuncData}{k:Nat}{N:Nat}
mutual
theorem sS:∀(x:St) {B:Bas} {ns:NS} {env:Env} {s:Stmt},Hy prog w A B Φ fa fd k→Ui ns env→okS x ns s=true→J8 prog w A B env (exS Φ N x) (exec (RS x s) env)
 |.expr x,B,ns,env,s,H,S,h=>J8.expr (sX x H S (G3 h).2) (by unfold interactive;rw[S.kind];rfl) (S.swaps (of_decide_eq_true (G3 h).1))
 |.asg y x,B,ns,env,s,H,S,h=>by
  refine zA2 (G3 h) fun h1 h=>?_;rcases of_decide_eq_true (G3 h).2 with h2|⟨h2,h3,h4,h5⟩
  ·exact J8.asg (sX x H S (G3 h).1) (S.can h1) (S.swaps h2)
  ·exact sAsg H S (G3 h).1 h2 ⟨h3,h4⟩ h5
 |.asgT xs x,B,ns,env,s,H,S,h=>by
  refine zA2 (G3 h) fun h1 h=>?_;refine zA2 (G3 h) fun h2 h=>?_;refine zA2 (G3 h) fun h3 h=>?_;refine zA2 (of_decide_eq_true h3) fun h3 h6=>?_;have hc:∀x∈xs,Y9 env x:=fun x hx=>S.can (Ql h2 x hx);rcases of_decide_eq_true (G3 h).2 with h5|h5
  ·refine J8.asgT H.rm.h (sX x H S (G3 h).1) h1 hc (S.swaps h6) (S.stores h5) ?_;refine z31 (tup_of_many h1) fun es kk p e=>?_;rw[e];rfl
  ·exact J8.asgTs H.rm.h (sX x H S (G3 h).1) h3 hc (S.swaps h6) (S.stores h5)
 |.asgS a i x,B,ns,env,s,H,S,h=>J8.asgS H.rm (sX x H S (G3 (G3 h).2).1) (sX a H S (G3 (G3 (G3 h).2).2).1) (sX i H S (G3 (G3 (G3 h).2).2).2) (S.swaps (of_decide_eq_true (G3 h).1))
 |.aug y x,B,ns,env,s,H,S,h=>J8.aug (by rw[S.kof];exact of_decide_eq_true (G3 h).1) (S.can (G3 (G3 h).2).1) (sX x H S (G3 (G3 h).2).2)
 |.ite c a b,B,ns,env,s,H,S,h=>J8.ite (sX c H S (G3 h).1) (sB a H S (G3 (G3 h).2).1) (sB b H S (G3 (G3 h).2).2)
 |.loop c b,B,ns,env,s,H,S,h=>J8.loop (sX c H S (G3 h).1) (sB b H S (G3 h).2)
 |.for t kd it b,B,ns,env,s,H,S,h=>by
  refine zA2 (G3 h) fun h1 h=>?_;refine zA2 (G3 h) fun h2 h=>?_;refine zA2 (G3 h) fun h3 h=>?_;refine zA2 (G3 h) fun h4 h=>?_;refine zA2 (src_of H S (G3 h).1 Un Zb (sX it H S (G3 h).2)) fun hI hF=>?_;exact J8.for H.rm.h hI h1 (manyOr h2) (fun x hx=>S.can (Ql h3 x hx)) hF fun B' hle=>sB b (H.raise hle) S h4
 |.ret x,B,ns,env,s,H,S,h=>J8.ret (sX x H S h)
 |.cont,B,ns,env,s,H,S,h=>J8.cont
 |.stuck,B,ns,env,s,H,S,h=>fun ι σ s ρ fl ρ' σ' Q E R F e h=>by cases e
theorem sB:∀(b:Blk) {B:Bas} {ns:NS} {env:Env} {ss:List Stmt},Hy prog w A B Φ fa fd k→Ui ns env→okB b ns ss=true→J8 prog w A B env (exB Φ N b) (execs (RB b ss) env)
 |.nil,B,ns,env,ss,H,S,h=>J8.nil
 |.cons st b,B,ns,env,ss,H,S,h=>J8.cons (sS st H S (G3 h).1) (sB b H S (G3 h).2)
end
noncomputable def fnB(fn:Fn)(args:Arguments)(body:List Stmt)(scope:Scope):Bool:=
 okB fn.body scope.names body&&(decide (args.posonlyargs.isEmpty=true∧args.kwonlyargs.isEmpty=true∧args.vararg.isNone=true∧args.kwarg.isNone=true)&&(decide (args.args.map (·.arg)=fn.params.map nm)&&
  (decide (scope.kind=.function)&&(decide ((scope.names.map (·.1)).Nodup)&&(decide ((fn.params.map nm).Nodup)&&(!scope.isCoroutine&&(!scope.isGenerator&&fn.params.all fun x=>canB scope.names x)))))))
theorem fnB_ok{fn:Fn}{nmF:Str}{args:Arguments}{body:List Stmt}{scope:Scope}{pm code doc:Value}(h:fnB fn args body scope=true):
 FnOk (PySem.Calls.docDef nmF args body scope pm code doc) fn body∧okB fn.body scope.names body=true:=by
 simp only[fnB,Qc,Q9,List.all_eq_true,Bool.not_eq_true',List.isEmpty_iff,Option.isNone_iff_eq_none]at h;refine cps fun qG qK=>?_;obtain⟨h0,⟨h1,h2,h3,h4⟩,h5,h6,h7,h8,h9,h10,h11⟩:=h;refine qK ?_;refine⟨{body:=rfl,p1:=h1,p2:=h2,p3:=h3,p4:=h4,args:=h5,dnone:=rfl,clo:=rfl,kind:=h6,glob:=rfl,blt:=rfl,nodup:=h7,pnodup:=h8,co:=h9,gen:=h10,rng:=fun x hx=>?_},h0⟩;have:=h11 x hx;simp only[canB,Q9]at this;exact this
theorem called_envS{d:FuncData}{fn:Fn}{body:List Stmt}{L a:Addr}(ok:FnOk d fn body):Ui d.scope.names (callEnvC d L a)where
 names:=rfl
 kind:=ok.kind
 cell:=fun n h=>cells_isSome h
theorem sF{P:List Fn}{bodyOf:Nat→List Stmt}{B:Bas}(hbs:Bs prog B)(G:Gl B)(fs:Fs B fa fd)(hfn:∀f,f<45→∃fn,P[f]?=some fn∧FnOk (fd f) fn (bodyOf f)∧okB fn.body (fd f).scope.names (bodyOf f)=true∧RB fn.body (bodyOf f)=bodyOf f):
 ∀(k:Nat) {A:Around} {B':Bas},RoomW A k→B.le B'→SndF prog w A B' fa (G0 P N k)
 |0,A,B',rm,hle=>fun f ι σ s vs us v σ' Q E hf R hv e h=>by cases e
 |k+1,A,B',rm,hle=>SndF.step rm (hbs.raise hle) (fs.raise hle) fun f hf=>by
  refine z14 (hfn f hf) fun fn h1 h2 h3 h4=>?_;refine⟨fn,h1,h2,fun A' L a rm'=>h4▸sB fn.body ⟨rm',hbs.raise hle,G.raise hle,fs.raise hle,fun B'' hle'=>sF hbs G fs hfn k rm'.toW fun b o e=>hle' _ _ (hle _ _ e)⟩ (called_envS h2) h3⟩
end
noncomputable def recOf(p:Program)(f:Nat):Option DefRec:=(recsOf p).find? fun d=>d.name==fnm f
noncomputable def bltNames:List Str:=[Str.ofString "len",Str.ofString "sum",Str.ofString "max",Str.ofString "min",Str.ofString "abs",Str.ofString "any",Str.ofString "sorted",Str.ofString "tuple",Str.ofString "dict",Str.ofString "int",rangeNm,enumNm]
noncomputable def recB(p:Program)(f:Nat):Bool:=decide (((recOf p f).bind fun d=>prog[f]?.bind fun fn=>some (fnB fn d.params d.body d.scope))=some true)
noncomputable def freeB(p:Program)(loose:List Str):Bool:=bltNames.all fun x=>decide (x∉startupNames)&&(decide (x∉loose)&&(decide (x∉(recsOf p).map (·.name))&&(decide (x∉(litsOf p).map (·.1))&&decide (x∉(clssOf p loose).map (·.name)))))
theorem ns_uniq{h:Heap}{a:Addr}{m m':Str→Option Value}(x:h.Ns a m)(y:h.Ns a m'):m=m':=by
 refine z34 x fun o es ep e hd _ hf=>?_;refine z34 y fun o' es' ep' e' hd' _ hf'=>?_;cases e.symm.trans e';cases hd.symm.trans hd';exact funext fun n=>(hf n).symm.trans (hf' n)
noncomputable def Two(h:Heap):Prop:=∃m,h.Ns mainGlobals m∧(m (gnm 0)=some (.ref 88)∧m (gnm 1)=some (.ref 89))∧h.get? 88=some (G4 #[.int 0 292,.int 1 293] 0)∧h.get? 89=some (G4 #[.int 1 295,.int 1 296] 0)
noncomputable def hook:Hook:=⟨Bool×Option Value×Option Value×Option Obj×Option Obj,fun s=>(s.heap.isNs mainGlobals,s.heap.nsMap mainGlobals (gnm 0),s.heap.nsMap mainGlobals (gnm 1),s.heap.get? 88,s.heap.get? 89),
 fun _=>(true,some (.ref 88),some (.ref 89),some (G4 #[.int 0 292,.int 1 293] 0),some (G4 #[.int 1 295,.int 1 296] 0)),fun _ h=>Two h,
 fun _ _ e=>⟨_,.of_isNs (congrArg Prod.fst e),⟨congrArg (·.2.1) e,congrArg (·.2.2.1) e⟩,congrArg (·.2.2.2.1) e,congrArg (·.2.2.2.2) e⟩,
 fun _ _ _ ⟨m,n,g,a,b⟩ k=>⟨m,n.keeps k,g,k _ _ a,k _ _ b⟩⟩
noncomputable def fdAt(h:Heap)(a:Addr):FuncData:=match h.get? a with
 |some ⟨_,_,.func d,_⟩=>d
 |_=>PySem.Calls.docDef (Str.ofString "") ⟨[],[],none,[],[],none,[]⟩ [] ⟨.function,[],false,false,[]⟩ .none .none .none
noncomputable def adAt(mg:Str→Option Value)(f:Nat):Addr:=match mg (fnm f)with
 |some (.ref a)=>a
 |_=>0
noncomputable def Uh(p:Program)(f:Nat):List Stmt:=((recOf p f).map (·.body)).getD []
noncomputable def codeAt(f:Nat):Blk:=(prog[f]?.map (·.body)).getD .nil
theorem well_ints{P:Params}{h:Heap}{ι:List Addr}:∀{ns:List Int} {vs:List Value},WellAll P h vs (ofPys (ns.map PyData.int))→VsR h ι (ns.map V.int) vs
 |[],vs,hw=>by
  simp only[Qm,ofPys]at hw;cases hw;exact .nil
 |i::ns,vs,hw=>by
  simp only[Q7,ofPys,ofPy]at hw;cases hw with
  |cons h1 h2=>
   cases h1;exact .cons (.int _ _) (well_ints h2)
structure Fd(p:Program)(mg:Str→Option Value)(h:Heap)(f:Nat)(d:DefRec)(fn:Fn)(o:Obj)(pm code doc:Value):Prop where
 rec_:recOf p f=some d
 fn_:prog[f]?=some fn
 ok:fnB fn d.params d.body d.scope=true
 at_:mg (fnm f)=some (.ref (adAt mg f))
 obj:h.get? (adAt mg f)=some o
 dat:o.data=.func (PySem.Calls.docDef d.name d.params d.body d.scope pm code doc)
 fd:fdAt h (adAt mg f)=PySem.Calls.docDef d.name d.params d.body d.scope pm code doc
 code:h.CodeRec code d.name
theorem joinA{p0 p:Program}{w:World}{loose:List Str}{mean:ExcName→Option Value}{mg mb:Str→Option Value}{s₁:Shared}{fa0 a:Addr}{ns:List Int}{N k:Nat}{σ':Sto}{Q:Value→Shared→Prop}{E:Value→Shared→Prop}
 (T:Top p loose mean mg mb s₁.heap) (hT:Two s₁.heap) (hmg:mg (fnm 44)=some (.ref fa0)) (hW:Well w.params s₁.heap (.ref a) (ofPy (PyData.list (ns.map PyData.int)))) (htree:p0.given.tree=none)
 (c1:(List.range 45).all (recB p)=true) (c2:freeB p loose=true) (c3:importsNone p=true) (c4:valOf p (gnm 2)=some (.int 200000)∧valOf p (gnm 3)=some (.int 20000)∧valOf p (gnm 4)=some (.int 3000000))
 (c5:(List.range 45).map (fun f=>RB (codeAt f) (Uh p f))=(List.range 45).map (Uh p))
 (hk:k<500) (hclean:G0 prog N (k+1) 44 [.loc 0] [.ro (ns.map V.int)]=some (.bool true,σ'))
 (hQ:∀s' h tk,s'={s₁ with heap:=h,toks:=tk}→(∀b o,s₁.heap.get? b=some o→s'.heap.get? b=some o)→Q (.bool true) s'):
 wpAny (model p0 w) callerA (call (.ref fa0) [.ref a]) Q E s₁:=by
 have hseer:=T.seer c3;let B:Bas:=⟨s₁.heap.get?⟩
 have hbs:Bs p0 B:={two:=(by obtain⟨o,_,_,e,_⟩:=hseer.mods.choose_spec.1;exact⟨o,e⟩),low:=⟨s₁.heap,fun a o e=>e,hseer,T.nolimit⟩,tree:=htree}
 have val:∀{x i},valOf p x=some (.int i)→∃u,mg x=some u∧VR s₁.heap [] (.int i) u:=fun{x i} hj=>by
  refine z12 (T.const _ _ hj) fun v h1 h2=>?_;cases h2 s₁.heap;exact⟨_,h1,.int _ _⟩
 have free:∀x∈bltNames,mg x=none:=fun x hx=>by
  have h1:=G3 (Ql c2 x hx);have h2:=G3 h1.2;have h3:=G3 h2.2;have h4:=G3 h3.2;exact T.free x (of_decide_eq_true h1.1) (of_decide_eq_true h2.1) (of_decide_eq_true h3.1) (of_decide_eq_true h4.1) (of_decide_eq_true h4.2)
 have G:Gl B:=⟨s₁.heap,mg,mb,fun a o e=>e,T.g,T.b,fun q=>⟨free _ (by cases q<;>decide+kernel),by
  rw[T.builtins _ (by cases q<;>decide+kernel)];cases q<;>rfl⟩,⟨free _ (by decide+kernel),by rw[T.builtins _ (by decide+kernel)];rfl⟩,⟨free _ (by decide+kernel),by rw[T.builtins _ (by decide+kernel)];rfl⟩,fun g v hg=>by
  refine z14 hT fun m hn hm a0 a1=>?_;cases ns_uniq hn T.g
  match g with
  |0=>cases hg;exact⟨_,hm.1,.tup a0 (.cons (.int _ _) (.cons (.int _ _) .nil))⟩
  |1=>cases hg;exact⟨_,hm.2,.tup a1 (.cons (.int _ _) (.cons (.int _ _) .nil))⟩
  |2=>cases hg;exact val c4.1
  |3=>cases hg;exact val c4.2.1
  |4=>cases hg;exact val c4.2.2
  |_+5=>cases hg⟩
 have data:∀f,f<45→∀{P:Prop},(∀d fn o pm code doc,Fd p mg s₁.heap f d fn o pm code doc→P)→P:=fun f hf P K=>by
  refine bnE (of_decide_eq_true (Ql c1 f (List.mem_range.mpr hf))) fun d hd h0=>?_;refine bnE h0 fun fn hfn h0=>?_;obtain⟨a,o,pm,code,doc,h1,h2,h3,h4⟩:=T.fn d (List.mem_of_find?_eq_some hd);have hn:d.name=fnm f:=beq_iff_eq.mp (List.find?_some (p:=fun d:DefRec=>d.name==fnm f) hd);rw[hn]at h1;have ha:adAt mg f=a:=by unfold adAt;rw[h1]
  obtain⟨cl,dc,dt,sl⟩:=o;have h3:dt=_:=h3;subst h3;exact K d fn _ pm code doc ⟨hd,hfn,Option.some.inj h0,ha▸h1,ha▸h2,rfl,by unfold fdAt;rw[ha,h2],h4⟩
 have fs:Fs B (adAt mg) (fun f=>fdAt s₁.heap (adAt mg f)):=⟨s₁.heap,mg,fun a o e=>e,T.g,fun f hf=>data f hf fun d fn o pm code doc D=>
  ⟨D.at_,⟨o,D.obj,D.fd▸D.dat⟩,show s₁.heap.CodeRec (fdAt _ _).code (fdAt _ _).qualname from D.fd▸D.code⟩⟩
 have hfn:∀f,f<45→∃fn,prog[f]?=some fn∧FnOk (fdAt s₁.heap (adAt mg f)) fn (Uh p f)∧okB fn.body (fdAt s₁.heap (adAt mg f)).scope.names (Uh p f)=true∧RB fn.body (Uh p f)=Uh p f:=fun f hf=>data f hf fun d fn o pm code doc D=>by
  have h9:RB (codeAt f) (Uh p f)=Uh p f:=List.map_inj_left.mp c5 f (List.mem_range.mpr hf);have hb:Uh p f=d.body:=by unfold Uh;rw[D.rec_];rfl
  have hc:codeAt f=fn.body:=by unfold codeAt;rw[D.fn_];rfl
  have ok:=fnB_ok (nmF:=d.name) (pm:=pm) (code:=code) (doc:=doc) D.ok;rw[hc,hb]at h9;exact⟨fn,D.fn_,by rw[D.fd,hb];exact⟨ok.1,ok.2,h9⟩⟩
 have hfa:adAt mg 44=fa0:=by unfold adAt;rw[hmg]
 have rw0:RoomW callerA (k+1):={h:=rfl,d:=by show 1+claimMargin+(k+1)+100<recursionLimit;unfold claimMargin recursionLimit;lia,u:=by show 4+3*(k+1)+100<cLine;unfold cLine;lia,fr:=⟨[],rfl⟩}
 have main:=sF (w:=w) (N:=N) hbs G fs hfn (k+1) rw0 (fun b o e=>e);have R:Rel p0 w B [.ro (ns.map V.int)] [a] s₁.heap:=
  {
   len:=rfl,nodup:=by simp,base:=fun b o e=>e,
   obs:=fun n o b e eb=>by
    match n with
    |0=>
     simp only[List.getElem?_cons_zero,Q1]at e eb;subst e eb;have hW':=hW;simp only[ofPy]at hW';cases hW' with
     |list h1 h2=>exact⟨_,_,h1,by rw[List.toList_toArray];exact well_ints h2⟩
    |n+1=>simp at e
   new:=fun n o b e eb hr=>by
    match n with
    |0=>simp only[List.getElem?_cons_zero,Q1]at e;subst e;cases hr
    |n+1=>simp at e}
 rw[←hfa];refine main 44 [a] _ s₁ [.loc 0] [.ref a] _ _ Q E (by decide) R (.cons (.loc rfl) .nil) hclean fun ι' s' u X r=>?_;rw[r.bool_inv];refine z21 X.same fun h tk e=>?_;exact hQ s' h tk e X.rel.base
end TK
namespace TK
theorem tst_t{α:Type}(x y:Option α):(V.bool true).tst x y=x:=rfl
theorem tst_f{α:Type}(x y:Option α):(V.bool false).tst x y=y:=rfl
theorem nx_n{α:Type}(x y:α):Fl.nx .next x y=x:=rfl
theorem nx_c{α:Type}(x y:α):Fl.nx .cont x y=y:=rfl
theorem nx_r{α:Type}(v:V)(x y:α):Fl.nx (.ret v) x y=y:=rfl
theorem out_n(σ:Sto):Fl.out .next σ=some (.none,σ):=rfl
theorem out_r(v:V)(σ:Sto):Fl.out (.ret v) σ=some (v,σ):=rfl
section
variable{Φ:Calls}{N:Nat}{ρ:Fr}{σ:Sto}
theorem e_none:evE Φ .none ρ σ=some (.none,σ):=rfl
theorem e_bool{b:Bool}:evE Φ (.bool b) ρ σ=some (.bool b,σ):=rfl
theorem e_int{b:Int}:evE Φ (.int b) ρ σ=some (.int b,σ):=rfl
theorem e_str{b:Nat}:evE Φ (.str b) ρ σ=some (.str b,σ):=rfl
theorem e_var{x:Nat}:evE Φ (.var x) ρ σ=(ρ x).bind fun v=>some (v,σ):=rfl
theorem e_glob{x:Nat}:evE Φ (.glob x) ρ σ=(glob x).bind fun v=>some (v,σ):=rfl
theorem e_tup{es:Exs}:evE Φ (.tup es) ρ σ=(Uc Φ es ρ σ).bind fun r=>some (.tup r.1,r.2):=rfl
theorem e_lst{es:Exs}:evE Φ (.lst es) ρ σ=(Uc Φ es ρ σ).bind fun r=>some (.loc r.2.length,r.2++[.list r.1]):=rfl
theorem e_dict0:evE Φ .dict0 ρ σ=some (.loc σ.length,σ++[.dict []]):=rfl
theorem e_bin{op:BOp}{a b:Ex}:evE Φ (.bin op a b) ρ σ=(evE Φ a ρ σ).bind fun x=>(evE Φ b ρ x.2).bind fun y=>Jx op x.1 y.1 y.2:=rfl
theorem e_neg{a:Ex}:evE Φ (.neg a) ρ σ=(evE Φ a ρ σ).bind fun x=>x.1.asI.bind fun i=>some (.int (-i),x.2):=rfl
theorem e_not{a:Ex}:evE Φ (.not a) ρ σ=(evE Φ a ρ σ).bind fun x=>x.1.asB.bind fun i=>some (.bool (!i),x.2):=rfl
theorem e_cmp{op:COp}{a b:Ex}:evE Φ (.cmp op a b) ρ σ=(evE Φ a ρ σ).bind fun x=>(evE Φ b ρ x.2).bind fun y=>(Gy op x.1 y.1 y.2).bind fun r=>some (.bool r,y.2):=rfl
theorem e_ite{c a b:Ex}:evE Φ (.ite c a b) ρ σ=(evE Φ c ρ σ).bind fun x=>x.1.tst (evE Φ a ρ x.2) (evE Φ b ρ x.2):=rfl
theorem e_sub{a b:Ex}:evE Φ (.sub a b) ρ σ=(evE Φ a ρ σ).bind fun x=>(evE Φ b ρ x.2).bind fun y=>(Jg x.1 y.1 y.2).bind fun r=>some (r,y.2):=rfl
theorem e_slice{a:Ex}{lo hi:Opt}:evE Φ (.slice a lo hi) ρ σ=(evE Φ a ρ σ).bind fun x=>(evO Φ lo ρ x.2).bind fun l=>(evO Φ hi ρ l.2).bind fun h=>Jc x.1 l.1 h.1 h.2:=rfl
theorem e_rev{a:Ex}:evE Φ (.rev a) ρ σ=(evE Φ a ρ σ).bind fun x=>x.1.asT.bind fun l=>if l.length<lim then some (.tup l.reverse,x.2)else none:=rfl
theorem e_call{f:Nat}{es:Exs}:evE Φ (.call f es) ρ σ=(Uc Φ es ρ σ).bind fun r=>Φ f r.1 r.2:=rfl
theorem e_prim{f:Prim}{es:Exs}:evE Φ (.prim f es) ρ σ=(Uc Φ es ρ σ).bind fun r=>Jd f r.1 r.2:=rfl
theorem e_meth{m:Meth}{o:Ex}{es:Exs}:evE Φ (.meth m o es) ρ σ=(evE Φ o ρ σ).bind fun x=>(Uc Φ es ρ x.2).bind fun r=>if Yg x.2 x.1=Yg r.2 x.1 then Ji m x.1 r.1 r.2 else none:=rfl
theorem e_and{es:Exs}:evE Φ (.and es) ρ σ=evAnd Φ es ρ σ:=rfl
theorem e_or{es:Exs}:evE Φ (.or es) ρ σ=evOr Φ es ρ σ:=rfl
theorem a_one{e:Ex}:evAnd Φ (.cons e .nil) ρ σ=(evE Φ e ρ σ).bind fun x=>x.1.asB.bind fun b=>some (.bool b,x.2):=rfl
theorem a_two{e e2:Ex}{es:Exs}:evAnd Φ (.cons e (.cons e2 es)) ρ σ=(evE Φ e ρ σ).bind fun x=>x.1.tst (evAnd Φ (.cons e2 es) ρ x.2) (some (.bool false,x.2)):=rfl
theorem o_one{e:Ex}:evOr Φ (.cons e .nil) ρ σ=(evE Φ e ρ σ).bind fun x=>x.1.asB.bind fun b=>some (.bool b,x.2):=rfl
theorem o_two{e e2:Ex}{es:Exs}:evOr Φ (.cons e (.cons e2 es)) ρ σ=(evE Φ e ρ σ).bind fun x=>x.1.tst (some (.bool true,x.2)) (evOr Φ (.cons e2 es) ρ x.2):=rfl
theorem s_nil:Uc Φ .nil ρ σ=some ([],σ):=rfl
theorem s_cons{e:Ex}{es:Exs}:Uc Φ (.cons e es) ρ σ=(evE Φ e ρ σ).bind fun x=>(Uc Φ es ρ x.2).bind fun r=>some (x.1::r.1,r.2):=rfl
theorem p_no:evO Φ .no ρ σ=some (none,σ):=rfl
theorem p_yes{e:Ex}:evO Φ (.yes e) ρ σ=(evE Φ e ρ σ).bind fun x=>some (some x.1,x.2):=rfl
theorem i_no:evC Φ .no ρ σ=some (true,σ):=rfl
theorem i_yes{e:Ex}:evC Φ (.yes e) ρ σ=(evE Φ e ρ σ).bind fun x=>x.1.asB.bind fun b=>some (b,x.2):=rfl
noncomputable def lT(Φ:Calls)(elt:Ex)(t:Tg)(cond:Opt)(ρ:Fr)(x:V)(acc:List V)(σ:Sto):Option (List V×Sto):=
 (Uk t x (drp ρ t.vars)).bind fun ρ'=>(evC Φ cond ρ' σ).bind fun c=>if c.1=true then(evE Φ elt ρ' c.2).bind fun y=>if acc.length<lim then some (acc++[y.1],y.2)else none else some (acc,c.2)
theorem e_lcomp{elt it:Ex}{t:Tg}{k:ItK}{cond:Opt}:evE Φ (.lcomp elt t k it cond) ρ σ=(evE Φ it ρ σ).bind fun v=>(Gx k v.1 v.2).bind fun s=>(J3 s.1 (lT Φ elt t cond ρ) s.1.items [] s.2).bind fun r=>some (.loc r.2.length,r.2++[.list r.1]):=rfl
noncomputable def dT(Φ:Calls)(key val:Ex)(x:Nat)(ρ:Fr)(xv:V)(acc:List (List Int×V))(σ:Sto):Option (List (List Int×V)×Sto):=
 (evE Φ key (upd (drp ρ [x]) x xv) σ).bind fun kv=>kv.1.asT.bind fun kt=>(evE Φ val (upd (drp ρ [x]) x xv) kv.2).bind fun y=>(Je kt).bind fun k=>if acc.length<lim then some (dput acc k y.1,y.2)else none
theorem e_dcomp{key val it:Ex}{x:Nat}:evE Φ (.dcomp key val x it) ρ σ=(evE Φ it ρ σ).bind fun v=>(Gx .plain v.1 v.2).bind fun s=>(J3 s.1 (dT Φ key val x ρ) s.1.items [] s.2).bind fun r=>some (.loc r.2.length,r.2++[.dict r.1]):=rfl
noncomputable def l2I(Φ:Calls)(elt:Ex)(y:Nat)(ρ:Fr)(yv:V)(acc:List V)(σ:Sto):Option (List V×Sto):=
 (evE Φ elt (upd ρ y yv) σ).bind fun z=>if acc.length<lim then some (acc++[z.1],z.2)else none
noncomputable def l2T(Φ:Calls)(elt:Ex)(x y:Nat)(k2:ItK)(it2:Ex)(ρ:Fr)(xv:V)(acc:List V)(σ:Sto):Option (List V×Sto):=
 (evE Φ it2 (upd (drp ρ [x,y]) x xv) σ).bind fun v=>(Gx k2 v.1 v.2).bind fun s=>J3 s.1 (l2I Φ elt y (upd (drp ρ [x,y]) x xv)) s.1.items acc s.2
theorem e_lcomp2{elt it it2:Ex}{x y:Nat}{k k2:ItK}:evE Φ (.lcomp2 elt x k it y k2 it2) ρ σ=(evE Φ it ρ σ).bind fun v=>(Gx k v.1 v.2).bind fun s=>(J3 s.1 (l2T Φ elt x y k2 it2 ρ) s.1.items [] s.2).bind fun r=>some (.loc r.2.length,r.2++[.list r.1]):=rfl
theorem t_expr{e:Ex}:exS Φ N (.expr e) ρ σ=(evE Φ e ρ σ).bind fun x=>some (.next,ρ,x.2):=rfl
theorem t_asg{x:Nat}{e:Ex}:exS Φ N (.asg x e) ρ σ=(evE Φ e ρ σ).bind fun v=>some (.next,upd ρ x v.1,v.2):=rfl
theorem t_asgT{xs:List Nat}{e:Ex}:exS Φ N (.asgT xs e) ρ σ=(evE Φ e ρ σ).bind fun v=>v.1.asT.bind fun vs=>(upds xs vs ρ).bind fun ρ'=>some (.next,ρ',v.2):=rfl
theorem t_asgS{a i e:Ex}:exS Φ N (.asgS a i e) ρ σ=(evE Φ e ρ σ).bind fun v=>(evE Φ a ρ v.2).bind fun x=>(evE Φ i ρ x.2).bind fun j=>(Zm x.1 j.1 v.1 j.2).bind fun s=>some (.next,ρ,s):=rfl
theorem t_aug{x:Nat}{e:Ex}:exS Φ N (.aug x e) ρ σ=(ρ x).bind fun a=>a.asI.bind fun a=>(evE Φ e ρ σ).bind fun b=>b.1.asI.bind fun i=>some (.next,upd ρ x (.int (a+i)),b.2):=rfl
theorem t_ite{c:Ex}{a b:Blk}:exS Φ N (.ite c a b) ρ σ=(evE Φ c ρ σ).bind fun x=>x.1.tst (exB Φ N a ρ x.2) (exB Φ N b ρ x.2):=rfl
theorem t_loop{c:Ex}{b:Blk}:exS Φ N (.loop c b) ρ σ=loopW N (evE Φ c) (exB Φ N b) ρ σ:=rfl
theorem t_for{t:Tg}{k:ItK}{it:Ex}{b:Blk}:exS Φ N (.for t k it b) ρ σ=(evE Φ it ρ σ).bind fun v=>(Gx k v.1 v.2).bind fun s=>loopF s.1 (Uk t) (exB Φ N b) s.1.items ρ s.2:=rfl
theorem t_ret{e:Ex}:exS Φ N (.ret e) ρ σ=(evE Φ e ρ σ).bind fun v=>some (.ret v.1,ρ,v.2):=rfl
theorem t_cont:exS Φ N .cont ρ σ=some (.cont,ρ,σ):=rfl
theorem b_nil:exB Φ N .nil ρ σ=some (.next,ρ,σ):=rfl
theorem b_cons{s:St}{b:Blk}:exB Φ N (.cons s b) ρ σ=(exS Φ N s ρ σ).bind fun r=>r.1.nx (exB Φ N b r.2.1 r.2.2) (some r):=rfl
theorem c_fn{P:List Fn}{f k:Nat}{args:List V}{fn:Fn}(h:P[f]?=some fn):G0 P N (k+1) f args σ=(upds fn.params args fun _=>none).bind fun ρ=>(exB (G0 P N k) N fn.body ρ σ).bind fun r=>r.1.out r.2.2:=by rw[G0,h,Q0]
theorem w_succ{test:Fr→Sto→Option (V×Sto)}{body:Fr→Sto→Option (Fl×Fr×Sto)}{n:Nat}:loopW (n+1) test body ρ σ=(test ρ σ).bind fun r=>r.1.tst ((body ρ r.2).bind fun q=>match q.1 with
 |.ret v=>some (.ret v,q.2.1,q.2.2)
 |_=>loopW n test body q.2.1 q.2.2) (some (.next,ρ,r.2)):=rfl
end
abbrev AL:=List (Nat×V)
noncomputable def lk:AL→Nat→Option V
 |[],_=>none
 |p::r,x=>cond (Nat.beq p.1 x) (some p.2) (lk r x)
noncomputable def stf:AL→Nat→V→AL
 |[],x,v=>[(x,v)]
 |p::r,x,v=>cond (Nat.beq p.1 x) ((x,v)::r) (p::stf r x v)
noncomputable def stfs:List Nat→List V→AL→Option AL
 |[],[],fr=>some fr
 |x::xs,v::vs,fr=>stfs xs vs (stf fr x v)
 |_,_,_=>none
noncomputable def Has(ρ:Fr)(fr:AL):Prop:=∀x v,lk fr x=some v→ρ x=some v
theorem lk_stf{fr:AL}{x y:Nat}{v:V}:lk (stf fr x v) y=cond (Nat.beq x y) (some v) (lk fr y):=by
 induction fr with
 |nil=>rfl
 |cons p r ih=>
  show lk (cond (Nat.beq p.1 x) ((x,v)::r) (p::stf r x v)) y=cond _ _ (cond (Nat.beq p.1 y) _ _);cases h:Nat.beq p.1 x with
  |true=>
   cases Nat.eq_of_beq_eq_true h;show cond (Nat.beq p.1 y) _ _=_;cases Nat.beq p.1 y<;>rfl
  |false=>
   show cond (Nat.beq p.1 y) _ (lk (stf r x v) y)=_;rw[ih];cases h1:Nat.beq p.1 y with
   |false=>rfl
   |true=>
    cases h2:Nat.beq x y with
    |false=>rfl
    |true=>rw[Nat.eq_of_beq_eq_true h2,h1]at h;cases h
theorem Has.upd{ρ:Fr}{fr:AL}(h:Has ρ fr)(x:Nat)(v:V):Has (upd ρ x v) (stf fr x v):=fun y u e=>by
 rw[lk_stf]at e;show(if y=x then some v else ρ y)=some u;by_cases hy:y=x
 ·subst hy;rw[Nat.beq_refl]at e;rw[if_pos rfl];exact e
 ·rw[if_neg hy];cases hb:Nat.beq x y with
  |true=>exact absurd (Nat.eq_of_beq_eq_true hb).symm hy
  |false=>rw[hb]at e;exact h y u e
theorem Has.upds:∀{xs:List Nat} {vs:List V} {fr fr':AL} {ρ:Fr},Has ρ fr→stfs xs vs fr=some fr'→∃ρ',upds xs vs ρ=some ρ'∧Has ρ' fr'
 |[],[],_,_,ρ,h,e=>by cases e;exact⟨ρ,rfl,h⟩
 |x::xs,v::vs,_,_,ρ,h,e=>Has.upds (xs:=xs) (h.upd x v) e
section
variable(Φ:Calls)(N:Nat)
noncomputable def RE(e:Ex)(fr:AL)(σ:Sto)(v:V)(σ':Sto):Prop:=∀ρ,Has ρ fr→evE Φ e ρ σ=some (v,σ')
noncomputable def QS(s:St)(fr:AL)(σ:Sto)(fl:Fl)(fr':AL)(σ':Sto):Prop:=∀ρ,Has ρ fr→∃ρ',exS Φ N s ρ σ=some (fl,ρ',σ')∧Has ρ' fr'
noncomputable def QB(s:Blk)(fr:AL)(σ:Sto)(fl:Fl)(fr':AL)(σ':Sto):Prop:=∀ρ,Has ρ fr→∃ρ',exB Φ N s ρ σ=some (fl,ρ',σ')∧Has ρ' fr'
noncomputable def gBin(op:BOp)(x y:V)(σ:Sto)(K:V→Sto→Prop):Prop:=match x with
 |.int a=>match y with
  |.int b=>match op with
   |.add=>K (.int (a+b)) σ
   |.sub=>K (.int (a-b)) σ
   |_=>∀{r σ'},Jx op x y σ=some (r,σ')→K r σ'
  |_=>∀{r σ'},Jx op x y σ=some (r,σ')→K r σ'
 |_=>∀{r σ'},Jx op x y σ=some (r,σ')→K r σ'
noncomputable def gCmp(op:COp)(x y:V)(σ:Sto)(K:Bool→Prop):Prop:=match x with
 |.int a=>match y with
  |.int b=>match op with
   |.lt=>K (decide (a<b))
   |.gt=>K (decide (b<a))
   |.le=>K (decide (a≤b))
   |.ge=>K (decide (b≤a))
   |.eq=>K (decide (a=b))
   |.ne=>K (!decide (a=b))
   |_=>∀{r},Gy op x y σ=some r→K r
  |_=>∀{r},Gy op x y σ=some r→K r
 |_=>∀{r},Gy op x y σ=some r→K r
noncomputable def gIf(t:V)(A B:Prop):Prop:=match t with
 |.bool t=>∀{r},t=r→cond r A B
 |_=>True
mutual
noncomputable def gE:Ex→AL→Sto→(V→Sto→Prop)→Prop
 |.none,_,σ,K=>K .none σ
 |.bool b,_,σ,K=>K (.bool b) σ
 |.int i,_,σ,K=>K (.int i) σ
 |.str k,_,σ,K=>K (.str k) σ
 |.var x,fr,σ,K=>(lk fr x).elim True fun v=>K v σ
 |.glob g,_,σ,K=>(glob g).elim True fun v=>K v σ
 |.tup es,fr,σ,K=>gEs es fr σ fun l σ=>K (.tup l) σ
 |.lst es,fr,σ,K=>gEs es fr σ fun l σ=>K (.loc σ.length) (σ++[.list l])
 |.dict0,_,σ,K=>K (.loc σ.length) (σ++[.dict []])
 |.bin op a b,fr,σ,K=>gE a fr σ fun x σ=>gE b fr σ fun y σ=>gBin op x y σ K
 |.neg a,fr,σ,K=>gE a fr σ fun x σ=>x.asI.elim True fun i=>K (.int (-i)) σ
 |.not a,fr,σ,K=>gE a fr σ fun x σ=>x.asB.elim True fun i=>K (.bool (!i)) σ
 |.and es,fr,σ,K=>gAnd es fr σ K
 |.or es,fr,σ,K=>gOr es fr σ K
 |.cmp op a b,fr,σ,K=>gE a fr σ fun x σ=>gE b fr σ fun y σ=>gCmp op x y σ fun r=>K (.bool r) σ
 |.ite c a b,fr,σ,K=>gE c fr σ fun x σ=>gIf x (gE a fr σ K) (gE b fr σ K)
 |.sub a b,fr,σ,K=>gE a fr σ fun x σ=>gE b fr σ fun y σ=>∀{r},Jg x y σ=some r→K r σ
 |.slice a lo hi,fr,σ,K=>gE a fr σ fun x σ=>gO lo fr σ fun l σ=>gO hi fr σ fun h σ=>∀{r σ'},Jc x l h σ=some (r,σ')→K r σ'
 |.rev a,fr,σ,K=>gE a fr σ fun x σ=>x.asT.elim True fun l=>l.length<lim→K (.tup l.reverse) σ
 |.call f es,fr,σ,K=>gEs es fr σ fun l σ=>∀{r σ'},Φ f l σ=some (r,σ')→K r σ'
 |.prim p es,fr,σ,K=>gEs es fr σ fun l σ=>∀{r σ'},Jd p l σ=some (r,σ')→K r σ'
 |.meth m o es,fr,σ,K=>gE o fr σ fun x σ=>gEs es fr σ fun l σ₂=>Yg σ x=Yg σ₂ x→∀{r σ'},Ji m x l σ₂=some (r,σ')→K r σ'
 |.lcomp elt t k it cond,fr,σ,K=>∀{r σ'},RE Φ (.lcomp elt t k it cond) fr σ r σ'→K r σ'
 |.lcomp2 elt x k it y k2 it2,fr,σ,K=>∀{r σ'},RE Φ (.lcomp2 elt x k it y k2 it2) fr σ r σ'→K r σ'
 |.dcomp key val x it,fr,σ,K=>∀{r σ'},RE Φ (.dcomp key val x it) fr σ r σ'→K r σ'
noncomputable def gEs:Exs→AL→Sto→(List V→Sto→Prop)→Prop
 |.nil,_,σ,K=>K [] σ
 |.cons e es,fr,σ,K=>gE e fr σ fun x σ=>gEs es fr σ fun l σ=>K (x::l) σ
noncomputable def gAnd:Exs→AL→Sto→(V→Sto→Prop)→Prop
 |.nil,_,_,_=>True
 |.cons e .nil,fr,σ,K=>gE e fr σ fun x σ=>x.asB.elim True fun b=>K (.bool b) σ
 |.cons e (.cons e2 es),fr,σ,K=>gE e fr σ fun x σ=>gIf x (gAnd (.cons e2 es) fr σ K) (K (.bool false) σ)
noncomputable def gOr:Exs→AL→Sto→(V→Sto→Prop)→Prop
 |.nil,_,_,_=>True
 |.cons e .nil,fr,σ,K=>gE e fr σ fun x σ=>x.asB.elim True fun b=>K (.bool b) σ
 |.cons e (.cons e2 es),fr,σ,K=>gE e fr σ fun x σ=>gIf x (K (.bool true) σ) (gOr (.cons e2 es) fr σ K)
noncomputable def gO:Opt→AL→Sto→(Option V→Sto→Prop)→Prop
 |.no,_,σ,K=>K none σ
 |.yes e,fr,σ,K=>gE e fr σ fun x σ=>K (some x) σ
end
mutual
noncomputable def gS:St→AL→Sto→(Fl→AL→Sto→Prop)→Prop
 |.expr e,fr,σ,K=>gE Φ e fr σ fun _ σ=>K .next fr σ
 |.asg x e,fr,σ,K=>gE Φ e fr σ fun v σ=>K .next (stf fr x v) σ
 |.asgT xs e,fr,σ,K=>gE Φ e fr σ fun v σ=>v.asT.elim True fun vs=>(stfs xs vs fr).elim True fun fr'=>K .next fr' σ
 |.asgS a i e,fr,σ,K=>gE Φ e fr σ fun v σ=>gE Φ a fr σ fun x σ=>gE Φ i fr σ fun j σ=>∀{σ'},Zm x j v σ=some σ'→K .next fr σ'
 |.aug x e,fr,σ,K=>(lk fr x).elim True fun a=>a.asI.elim True fun a=>gE Φ e fr σ fun b σ=>b.asI.elim True fun i=>K .next (stf fr x (.int (a+i))) σ
 |.ite c a b,fr,σ,K=>gE Φ c fr σ fun x σ=>gIf x (gB a fr σ K) (gB b fr σ K)
 |.loop c b,fr,σ,K=>∀{fl fr' σ'},QS Φ N (.loop c b) fr σ fl fr' σ'→K fl fr' σ'
 |.for t k it b,fr,σ,K=>∀{fl fr' σ'},QS Φ N (.for t k it b) fr σ fl fr' σ'→K fl fr' σ'
 |.ret e,fr,σ,K=>gE Φ e fr σ fun v σ=>K (.ret v) fr σ
 |.cont,fr,σ,K=>K .cont fr σ
 |.stuck,_,_,_=>True
noncomputable def gB:Blk→AL→Sto→(Fl→AL→Sto→Prop)→Prop
 |.nil,fr,σ,K=>K .next fr σ
 |.cons s b,fr,σ,K=>gS s fr σ fun fl fr σ=>fl.nx (gB b fr σ K) (K fl fr σ)
end
end
section
variable{Φ:Calls}{N:Nat}{fr:AL}{σ:Sto}
theorem gBin_ok{op:BOp}{x y:V}{K:V→Sto→Prop}(h:∀r σ',Jx op x y σ=some (r,σ')→K r σ'):gBin op x y σ K:=by
 cases x with
 |int a=>cases y with
  |int b=>cases op with
   |add|sub=>exact h _ _ rfl
   |_=>exact fun{r σ'} e=>h r σ' e
  |_=>exact fun{r σ'} e=>h r σ' e
 |_=>exact fun{r σ'} e=>h r σ' e
theorem gCmp_ok{op:COp}{x y:V}{K:Bool→Prop}(h:∀r,Gy op x y σ=some r→K r):gCmp op x y σ K:=by
 cases x with
 |int a=>cases y with
  |int b=>cases op with
   |lt|gt|le|ge|eq|ne=>exact h _ rfl
   |_=>exact fun{r} e=>h r e
  |_=>exact fun{r} e=>h r e
 |_=>exact fun{r} e=>h r e
theorem gIf_ok{t:V}{A B:Prop}(h1:t=.bool true→A)(h2:t=.bool false→B):gIf t A B:=by
 cases t with
 |bool t=>
  intro r e;subst e;cases t with
  |true=>exact h1 rfl
  |false=>exact h2 rfl
 |_=>trivial
theorem el{α:Type}{o:Option α}{K:α→Prop}(h:∀a,o=some a→K a):o.elim True K:=by
 cases o with
 |none=>trivial
 |some a=>exact h a rfl
theorem bnI{α β:Type}{x:Option α}{f:α→Option β}{a:α}{r:Option β}(h:x=some a)(k:f a=r):x.bind f=r:=by rw[h];exact k
theorem ndI{t:V}{α:Type}{A B r:Option α}(e:t=.bool true)(h:A=r):t.tst A B=r:=by subst e;exact h
theorem ndF{t:V}{α:Type}{A B r:Option α}(e:t=.bool false)(h:B=r):t.tst A B=r:=by subst e;exact h
variable(Φ N)
mutual
theorem Jh:∀(e:Ex) (fr:AL) (σ:Sto) (K:V→Sto→Prop),(∀v σ',RE Φ e fr σ v σ'→K v σ')→gE Φ e fr σ K
 |.none,_,_,_,h=>h _ _ fun _ _=>rfl
 |.bool _,_,_,_,h=>h _ _ fun _ _=>rfl
 |.int _,_,_,_,h=>h _ _ fun _ _=>rfl
 |.str _,_,_,_,h=>h _ _ fun _ _=>rfl
 |.var x,_,_,_,h=>el fun v hv=>h v _ fun ρ H=>bnI (H x v hv) rfl
 |.glob g,_,_,_,h=>el fun v hv=>h v _ fun ρ H=>bnI hv rfl
 |.tup es,fr,σ,_,h=>gEs_ok es fr σ _ fun l σ₁ H₁=>h _ _ fun ρ H=>bnI (H₁ ρ H) rfl
 |.lst es,fr,σ,_,h=>gEs_ok es fr σ _ fun l σ₁ H₁=>h _ _ fun ρ H=>bnI (H₁ ρ H) rfl
 |.dict0,_,_,_,h=>h _ _ fun _ _=>rfl
 |.bin op a b,fr,σ,_,h=>Jh a fr σ _ fun x σ₁ H₁=>Jh b fr σ₁ _ fun y σ₂ H₂=>gBin_ok fun r σ₃ e=>h _ _ fun ρ H=>bnI (H₁ ρ H) (bnI (H₂ ρ H) e)
 |.neg a,fr,σ,_,h=>Jh a fr σ _ fun x σ₁ H₁=>el fun i e=>h _ _ fun ρ H=>bnI (H₁ ρ H) (bnI e rfl)
 |.not a,fr,σ,_,h=>Jh a fr σ _ fun x σ₁ H₁=>el fun i e=>h _ _ fun ρ H=>bnI (H₁ ρ H) (bnI e rfl)
 |.and es,fr,σ,_,h=>gAnd_ok es fr σ _ h
 |.or es,fr,σ,_,h=>gOr_ok es fr σ _ h
 |.cmp op a b,fr,σ,_,h=>Jh a fr σ _ fun x σ₁ H₁=>Jh b fr σ₁ _ fun y σ₂ H₂=>gCmp_ok fun r e=>h _ _ fun ρ H=>bnI (H₁ ρ H) (bnI (H₂ ρ H) (bnI e rfl))
 |.ite c a b,fr,σ,K,h=>Jh c fr σ _ fun x σ₁ H₁=>gIf_ok (fun e=>Jh a fr σ₁ K fun v σ₂ H₂=>h _ _ fun ρ H=>bnI (H₁ ρ H) (ndI e (H₂ ρ H))) (fun e=>Jh b fr σ₁ K fun v σ₂ H₂=>h _ _ fun ρ H=>bnI (H₁ ρ H) (ndF e (H₂ ρ H)))
 |.sub a b,fr,σ,_,h=>Jh a fr σ _ fun x σ₁ H₁=>Jh b fr σ₁ _ fun y σ₂ H₂=> @fun r e=>h _ _ fun ρ H=>bnI (H₁ ρ H) (bnI (H₂ ρ H) (bnI e rfl))
 |.slice a lo hi,fr,σ,_,h=>Jh a fr σ _ fun x σ₁ H₁=>gO_ok lo fr σ₁ _ fun l σ₂ H₂=>gO_ok hi fr σ₂ _ fun u σ₃ H₃=> @fun r σ' e=>h _ _ fun ρ H=>bnI (H₁ ρ H) (bnI (H₂ ρ H) (bnI (H₃ ρ H) e))
 |.rev a,fr,σ,_,h=>Jh a fr σ _ fun x σ₁ H₁=>el fun l e=>fun hl=>h _ _ fun ρ H=>bnI (H₁ ρ H) (bnI e (if_pos hl))
 |.call f es,fr,σ,_,h=>gEs_ok es fr σ _ fun l σ₁ H₁=> @fun r σ' e=>h _ _ fun ρ H=>bnI (H₁ ρ H) e
 |.prim f es,fr,σ,_,h=>gEs_ok es fr σ _ fun l σ₁ H₁=> @fun r σ' e=>h _ _ fun ρ H=>bnI (H₁ ρ H) e
 |.meth m o es,fr,σ,_,h=>Jh o fr σ _ fun x σ₁ H₁=>gEs_ok es fr σ₁ _ fun l σ₂ H₂=>fun hk=> @fun r σ' e=>h _ _ fun ρ H=>bnI (H₁ ρ H) (bnI (H₂ ρ H) ((if_pos hk).trans e))
 |.lcomp ..,_,_,_,h=>fun e=>h _ _ e
 |.lcomp2 ..,_,_,_,h=>fun e=>h _ _ e
 |.dcomp ..,_,_,_,h=>fun e=>h _ _ e
theorem gEs_ok:∀(e:Exs) (fr:AL) (σ:Sto) (K:List V→Sto→Prop),(∀v σ',(∀ρ,Has ρ fr→Uc Φ e ρ σ=some (v,σ'))→K v σ')→gEs Φ e fr σ K
 |.nil,_,_,_,h=>h _ _ fun _ _=>rfl
 |.cons e es,fr,σ,_,h=>Jh e fr σ _ fun x σ₁ H₁=>gEs_ok es fr σ₁ _ fun l σ₂ H₂=>h _ _ fun ρ H=>bnI (H₁ ρ H) (bnI (H₂ ρ H) rfl)
theorem gAnd_ok:∀(e:Exs) (fr:AL) (σ:Sto) (K:V→Sto→Prop),(∀v σ',(∀ρ,Has ρ fr→evAnd Φ e ρ σ=some (v,σ'))→K v σ')→gAnd Φ e fr σ K
 |.nil,_,_,_,_=>trivial
 |.cons e .nil,fr,σ,_,h=>Jh e fr σ _ fun x σ₁ H₁=>el fun i e=>h _ _ fun ρ H=>bnI (H₁ ρ H) (bnI e rfl)
 |.cons c (.cons e2 es),fr,σ,K,h=>Jh c fr σ _ fun x σ₁ H₁=>gIf_ok (fun e=>gAnd_ok (.cons e2 es) fr σ₁ K fun v σ₂ H₂=>h _ _ fun ρ H=>bnI (H₁ ρ H) (ndI e (H₂ ρ H))) (fun e=>h _ _ fun ρ H=>bnI (H₁ ρ H) (ndF e rfl))
theorem gOr_ok:∀(e:Exs) (fr:AL) (σ:Sto) (K:V→Sto→Prop),(∀v σ',(∀ρ,Has ρ fr→evOr Φ e ρ σ=some (v,σ'))→K v σ')→gOr Φ e fr σ K
 |.nil,_,_,_,_=>trivial
 |.cons e .nil,fr,σ,_,h=>Jh e fr σ _ fun x σ₁ H₁=>el fun i e=>h _ _ fun ρ H=>bnI (H₁ ρ H) (bnI e rfl)
 |.cons c (.cons e2 es),fr,σ,K,h=>Jh c fr σ _ fun x σ₁ H₁=>gIf_ok (fun e=>h _ _ fun ρ H=>bnI (H₁ ρ H) (ndI e rfl)) (fun e=>gOr_ok (.cons e2 es) fr σ₁ K fun v σ₂ H₂=>h _ _ fun ρ H=>bnI (H₁ ρ H) (ndF e (H₂ ρ H)))
theorem gO_ok:∀(e:Opt) (fr:AL) (σ:Sto) (K:Option V→Sto→Prop),(∀v σ',(∀ρ,Has ρ fr→evO Φ e ρ σ=some (v,σ'))→K v σ')→gO Φ e fr σ K
 |.no,_,_,_,h=>h _ _ fun _ _=>rfl
 |.yes e,fr,σ,_,h=>Jh e fr σ _ fun x σ₁ H₁=>h _ _ fun ρ H=>bnI (H₁ ρ H) rfl
end
mutual
theorem gS_ok:∀(s:St) (fr:AL) (σ:Sto) (K:Fl→AL→Sto→Prop),(∀fl fr' σ',QS Φ N s fr σ fl fr' σ'→K fl fr' σ')→gS Φ N s fr σ K
 |.expr e,fr,σ,_,h=>Jh Φ e fr σ _ fun v σ₁ H₁=>h _ _ _ fun ρ H=>⟨ρ,bnI (H₁ ρ H) rfl,H⟩
 |.asg x e,fr,σ,_,h=>Jh Φ e fr σ _ fun v σ₁ H₁=>h _ _ _ fun ρ H=>⟨_,bnI (H₁ ρ H) rfl,H.upd x v⟩
 |.asgT xs e,fr,σ,_,h=>Jh Φ e fr σ _ fun v σ₁ H₁=>el fun vs e=>el fun fr' e'=>h _ _ _ fun ρ H=>(H.upds e').elim fun ρ' h'=>⟨ρ',bnI (H₁ ρ H) (bnI e (bnI h'.1 rfl)),h'.2⟩
 |.asgS a i e,fr,σ,_,h=>Jh Φ e fr σ _ fun v σ₁ H₁=>Jh Φ a fr σ₁ _ fun x σ₂ H₂=>Jh Φ i fr σ₂ _ fun j σ₃ H₃=> @fun σ' e=>h _ _ _ fun ρ H=>⟨ρ,bnI (H₁ ρ H) (bnI (H₂ ρ H) (bnI (H₃ ρ H) (bnI e rfl))),H⟩
 |.aug x e,fr,σ,_,h=>el fun v hv=>el fun a ha=>Jh Φ e fr σ _ fun b σ₁ H₁=>el fun i hi=>h _ _ _ fun ρ H=>⟨_,bnI (H x v hv) (bnI ha (bnI (H₁ ρ H) (bnI hi rfl))),H.upd x _⟩
 |.ite c a b,fr,σ,K,h=>Jh Φ c fr σ _ fun x σ₁ H₁=>gIf_ok (fun e=>gB_ok a fr σ₁ K fun fl fr' σ' H₂=>h _ _ _ fun ρ H=>(H₂ ρ H).elim fun ρ' h'=>⟨ρ',bnI (H₁ ρ H) (ndI e h'.1),h'.2⟩) (fun e=>gB_ok b fr σ₁ K fun fl fr' σ' H₂=>h _ _ _ fun ρ H=>(H₂ ρ H).elim fun ρ' h'=>⟨ρ',bnI (H₁ ρ H) (ndF e h'.1),h'.2⟩)
 |.loop c b,fr,σ,_,h=>fun e=>h _ _ _ e
 |.for t k it b,fr,σ,_,h=>fun e=>h _ _ _ e
 |.ret e,fr,σ,_,h=>Jh Φ e fr σ _ fun v σ₁ H₁=>h _ _ _ fun ρ H=>⟨ρ,bnI (H₁ ρ H) rfl,H⟩
 |.cont,fr,σ,_,h=>h _ _ _ fun ρ H=>⟨ρ,rfl,H⟩
 |.stuck,_,_,_,_=>trivial
theorem gB_ok:∀(s:Blk) (fr:AL) (σ:Sto) (K:Fl→AL→Sto→Prop),(∀fl fr' σ',QB Φ N s fr σ fl fr' σ'→K fl fr' σ')→gB Φ N s fr σ K
 |.nil,fr,σ,_,h=>h _ _ _ fun ρ H=>⟨ρ,rfl,H⟩
 |.cons s b,fr,σ,K,h=>gS_ok s fr σ _ fun fl fr₁ σ₁ H₁=>match fl,H₁ with
  |.next,H₁=>gB_ok b fr₁ σ₁ K fun fl fr' σ' H₂=>h _ _ _ fun ρ H=>(H₁ ρ H).elim fun ρ₁ h₁=>(H₂ ρ₁ h₁.2).elim fun ρ' h'=>⟨ρ',bnI h₁.1 h'.1,h'.2⟩
  |.cont,H₁=>h _ _ _ fun ρ H=>(H₁ ρ H).elim fun ρ₁ h₁=>⟨ρ₁,bnI h₁.1 rfl,h₁.2⟩
  |.ret v,H₁=>h _ _ _ fun ρ H=>(H₁ ρ H).elim fun ρ₁ h₁=>⟨ρ₁,bnI h₁.1 rfl,h₁.2⟩
end
theorem wE(e:Ex)(fr:AL)(σ:Sto):gE Φ e fr σ (RE Φ e fr σ):=Jh Φ e fr σ _ fun _ _ h=>h
theorem wB(b:Blk)(fr:AL)(σ:Sto):gB Φ N b fr σ (QB Φ N b fr σ):=gB_ok Φ N b fr σ _ fun _ _ _ h=>h
noncomputable def Fl.res(f:Fl)(K:V→Prop):Prop:=match f with
 |.ret v=>K v
 |.next=>K .none
 |.cont=>True
variable{Φ}
theorem wF(k f:Nat)(args:List V)(σ:Sto):prog[f]?.elim True fun fn=>(stfs fn.params args []).elim True fun fr=>gB (G0 prog N k) N fn.body fr σ fun fl _ σ'=>fl.res fun v=>G0 prog N (k+1) f args σ=some (v,σ'):=
 el fun fn hf=>el fun fr hfr=>gB_ok _ N fn.body fr σ _ fun fl fr' σ' H=>by
  obtain⟨ρ,h1,h2⟩:=Has.upds (ρ:=fun _=>none) (fun x v e=>by cases e) hfr;obtain⟨ρ',h3,_⟩:=H ρ h2;have e:∀v,fl.out σ'=some (v,σ')→G0 prog N (k+1) f args σ=some (v,σ'):=fun v hv=>by
   rw[c_fn hf];exact bnI h1 (bnI h3 hv)
  cases fl with
  |cont=>trivial
  |next=>exact e _ rfl
  |ret v=>exact e _ rfl
noncomputable def sl(fr:AL):List Nat→AL
 |[]=>[]
 |x::xs=>(lk fr x).elim (sl fr xs) fun v=>(x,v)::sl fr xs
theorem lk_sl{fr:AL}{y:Nat}{v:V}:∀{xs:List Nat},lk (sl fr xs) y=some v→lk fr y=some v
 |[],e=>by cases e
 |x::xs,e=>by
  have e:lk ((lk fr x).elim (sl fr xs) fun v=>(x,v)::sl fr xs) y=some v:=e;cases h:lk fr x with
  |none=>rw[h]at e;exact lk_sl e
  |some u=>
   rw[h]at e;have e:cond (Nat.beq x y) (some u) (lk (sl fr xs) y)=some v:=e;cases hb:Nat.beq x y with
   |true=>rw[hb]at e;rw[←Nat.eq_of_beq_eq_true hb,h];exact e
   |false=>rw[hb]at e;exact lk_sl e
theorem Has.sl{ρ:Fr}(xs:List Nat)(h:Has ρ fr):Has ρ (sl fr xs):=fun x v e=>h x v (lk_sl e)
noncomputable def Fl.on(f:Fl):Prop:=match f with
 |.ret _=>False
 |_=>True
noncomputable def RW(Φ:Calls)(N:Nat)(n:Nat)(c:Ex)(b:Blk)(fr:AL)(σ:Sto)(fl:Fl)(fr':AL)(σ':Sto):Prop:=∀ρ,Has ρ fr→∃ρ',loopW n (evE Φ c) (exB Φ N b) ρ σ=some (fl,ρ',σ')∧Has ρ' fr'
variable{Φ:Calls}{N n:Nat}{fr fr1 fr':AL}{σ σ1 σ2 σ':Sto}{fl f1:Fl}{c:Ex}{b:Blk}{t:Bool}
theorem RW.stop(h:RE Φ c fr σ (.bool t) σ')(e:t=false):RW Φ N (n+1) c b fr σ .next fr σ':=fun ρ H=>⟨ρ,by rw[w_succ,h ρ H,e];rfl,H⟩
theorem RW.turn(h:RE Φ c fr σ (.bool t) σ1)(e:t=true)(hb:QB Φ N b fr σ1 f1 fr1 σ2)(xs:List Nat)(r:RW Φ N n c b (TK.sl fr1 xs) σ2 fl fr' σ')(hf:f1.on):RW Φ N (n+1) c b fr σ fl fr' σ':=fun ρ H=>by
 refine cps fun qG qK=>?_;obtain⟨ρ1,h1,H1⟩:=hb ρ H;obtain⟨ρ2,h2,H2⟩:=r ρ1 (H1.sl xs);refine qK ?_;refine⟨ρ2,?_,H2⟩;rw[w_succ,h ρ H,e];refine bnI rfl (bnI h1 ?_);cases f1 with
 |ret v=>exact hf.elim
 |next|cont=>exact h2
theorem RW.loop(xs:List Nat)(r:RW Φ N N c b (TK.sl fr xs) σ fl fr' σ'):QS Φ N (.loop c b) fr σ fl fr' σ':=fun ρ H=>r ρ (H.sl xs)
noncomputable def bfr(t:Tg)(x:V)(fr:AL):Option AL:=match t with
 |.one n=>some (stf fr n x)
 |.many xs=>x.asT.bind fun vs=>stfs xs vs fr
theorem Has.bfr{ρ:Fr}{x:V}{tg:Tg}(h:Has ρ fr)(e:bfr tg x fr=some fr'):∃ρ',Uk tg x ρ=some ρ'∧Has ρ' fr':=by
 cases tg with
 |one n=>cases e;exact⟨_,rfl,h.upd n x⟩
 |many xs=>cases x with
  |tup vs=>exact h.upds e
  |_=>cases e
noncomputable def RF(Φ:Calls)(N:Nat)(src:Src)(tg:Tg)(b:Blk)(items:List V)(fr:AL)(σ:Sto)(fl:Fl)(fr':AL)(σ':Sto):Prop:=∀ρ,Has ρ fr→∃ρ',loopF src (Uk tg) (exB Φ N b) items ρ σ=some (fl,ρ',σ')∧Has ρ' fr'
variable{src:Src}{tg:Tg}{items:List V}{x v:V}{it:Ex}{kk:ItK}
theorem RF.nil(h:src.ok σ=true)(h2:src.free σ=σ'):RF Φ N src tg b [] fr σ .next fr σ':=fun ρ H=>⟨ρ,(if_pos h).trans (by rw[h2]),H⟩
theorem RF.cons(h:src.ok σ=true)(h2:bfr tg x fr=some fr1){fr2:AL}(hb:QB Φ N b fr1 σ f1 fr2 σ1)(hf:f1.on)(xs:List Nat)(r:RF Φ N src tg b items (TK.sl fr2 xs) σ1 fl fr' σ'):RF Φ N src tg b (x::items) fr σ fl fr' σ':=fun ρ H=>by
 refine cps fun qG qK=>?_;obtain⟨ρ1,e1,H1⟩:=H.bfr h2;obtain⟨ρ2,e2,H2⟩:=hb ρ1 H1;obtain⟨ρ3,e3,H3⟩:=r ρ2 (H2.sl xs);refine qK ?_;refine⟨ρ3,(if_pos h).trans ?_,H3⟩;rw[e1];show(match exB Φ N b ρ1 σ with
  |some (Fl.ret v,ρ',σ')=>if src.ok σ' then some (Fl.ret v,ρ',src.free σ')else none
  |some (_,ρ',σ')=>loopF src (Uk tg) (exB Φ N b) items ρ' σ'
  |none=>none)=_
 rw[e2];cases f1 with
 |ret v=>exact hf.elim
 |next|cont=>exact e3
theorem RF.ret(h:src.ok σ=true)(h2:bfr tg x fr=some fr1)(hb:QB Φ N b fr1 σ (.ret v) fr' σ1)(h3:src.ok σ1=true)(h4:src.free σ1=σ'):RF Φ N src tg b (x::items) fr σ (.ret v) fr' σ':=fun ρ H=>by
 refine cps fun qG qK=>?_;obtain⟨ρ1,e1,H1⟩:=H.bfr h2;obtain⟨ρ2,e2,H2⟩:=hb ρ1 H1;refine qK ?_;refine⟨ρ2,(if_pos h).trans ?_,H2⟩;rw[e1];show(match exB Φ N b ρ1 σ with
  |some (Fl.ret v,ρ',σ')=>if src.ok σ' then some (Fl.ret v,ρ',src.free σ')else none
  |some (_,ρ',σ')=>loopF src (Uk tg) (exB Φ N b) items ρ' σ'
  |none=>none)=_
 rw[e2];exact(if_pos h3).trans (by rw[h4])
theorem RF.for(h:RE Φ it fr σ v σ1)(h2:Gx kk v σ1=some (src,σ2))(xs:List Nat)(r:RF Φ N src tg b src.items (TK.sl fr xs) σ2 fl fr' σ'):QS Φ N (.for tg kk it b) fr σ fl fr' σ':=fun ρ H=>by
 obtain⟨ρ3,e3,H3⟩:=r ρ (H.sl xs);exact⟨ρ3,bnI (h ρ H) (bnI h2 e3),H3⟩
noncomputable def erf(fr:AL)(xs:List Nat):AL:=match fr with
 |[]=>[]
 |p::r=>cond (xs.any fun y=>Nat.beq p.1 y) (erf r xs) (p::erf r xs)
theorem lk_erf{xs:List Nat}{y:Nat}{v:V}:∀{fr:AL},lk (erf fr xs) y=some v→y∉xs∧lk fr y=some v
 |[],e=>by cases e
 |p::r,e=>by
  have e:lk (cond (xs.any fun y=>Nat.beq p.1 y) (erf r xs) (p::erf r xs)) y=some v:=e;show _∧cond (Nat.beq p.1 y) _ _=_;cases h:xs.any fun y=>Nat.beq p.1 y with
  |true=>
   rw[h]at e;have:=lk_erf (fr:=r) e;refine⟨this.1,?_⟩;cases hb:Nat.beq p.1 y with
   |false=>exact this.2
   |true=>
    obtain⟨z,hz,hzy⟩:=List.any_eq_true.mp h;rw[←Nat.eq_of_beq_eq_true hb,Nat.eq_of_beq_eq_true hzy]at this;exact absurd hz this.1
  |false=>
   rw[h]at e;have e:cond (Nat.beq p.1 y) (some p.2) (lk (erf r xs) y)=some v:=e;cases hb:Nat.beq p.1 y with
   |false=>rw[hb]at e;exact lk_erf (fr:=r) e
   |true=>
    rw[hb]at e;refine⟨fun hy=>?_,e⟩;rw[List.any_eq_false]at h;exact h y hy hb
theorem Has.erf{ρ:Fr}(xs:List Nat)(h:Has ρ fr):Has (drp ρ xs) (erf fr xs):=fun x v e=>by
 have:=lk_erf e;show(if x∈xs then _ else ρ x)=_;rw[if_neg this.1];exact h x v this.2
noncomputable def RT(Φ:Calls)(elt:Ex)(tg:Tg)(cd:Opt)(fr:AL)(x:V)(acc:List V)(σ:Sto)(acc':List V)(σ':Sto):Prop:=∀ρ,Has ρ fr→lT Φ elt tg cd ρ x acc σ=some (acc',σ')
variable{elt cd:Ex}{acc acc':List V}{y:V}
theorem RT.one(h2:bfr tg x (TK.erf fr tg.vars)=some fr1)(h:RE Φ elt fr1 σ y σ')(hl:acc.length<lim):RT Φ elt tg .no fr x acc σ (acc++[y]) σ':=fun ρ H=>by
 obtain⟨ρ1,e1,H1⟩:=(H.erf tg.vars).bfr h2;exact bnI e1 (bnI rfl ((if_pos rfl).trans (bnI (h ρ1 H1) (if_pos hl))))
theorem RT.yes(h2:bfr tg x (TK.erf fr tg.vars)=some fr1)(hc:RE Φ cd fr1 σ (.bool t) σ1)(e:t=true)(h:RE Φ elt fr1 σ1 y σ')(hl:acc.length<lim):RT Φ elt tg (.yes cd) fr x acc σ (acc++[y]) σ':=fun ρ H=>by
 obtain⟨ρ1,e1,H1⟩:=(H.erf tg.vars).bfr h2;exact bnI e1 (bnI (bnI (hc ρ1 H1) rfl) ((if_pos e).trans (bnI (h ρ1 H1) (if_pos hl))))
theorem RT.skip(h2:bfr tg x (TK.erf fr tg.vars)=some fr1)(hc:RE Φ cd fr1 σ (.bool t) σ')(e:t=false):RT Φ elt tg (.yes cd) fr x acc σ acc σ':=fun ρ H=>by
 obtain⟨ρ1,e1,H1⟩:=(H.erf tg.vars).bfr h2;exact bnI e1 (bnI (bnI (hc ρ1 H1) rfl) (if_neg (by rw[e];exact Bool.false_ne_true)))
theorem RE.lc{cd:Opt}(h:RE Φ it fr σ v σ1)(h2:Gx kk v σ1=some (src,σ2))(r:∀ρ,Has ρ fr→J3 src (lT Φ elt tg cd ρ) src.items [] σ2=some (acc',σ')):RE Φ (.lcomp elt tg kk it cd) fr σ (.loc σ'.length) (σ'++[.list acc']):=fun ρ H=>bnI (h ρ H) (bnI h2 (bnI (r ρ H) rfl))
theorem Ug{α:Type}{turn:V→α→Sto→Option (α×Sto)}{a:α}(h:src.ok σ=true)(h2:src.free σ=σ'):J3 src turn [] a σ=some (a,σ'):=(if_pos h).trans (by rw[h2])
theorem Js{α:Type}{turn:V→α→Sto→Option (α×Sto)}{a a':α}{r:Option (α×Sto)}(h:src.ok σ=true)(h2:turn x a σ=some (a',σ1))(k:J3 src turn items a' σ1=r):J3 src turn (x::items) a σ=r:=(if_pos h).trans (by rw[h2];exact k)
theorem lc2{cd:Opt}{x1 x2 y1 y2:V}(h:RE Φ it fr σ v σ)(h2:Gx kk v σ=some (⟨[x1,x2],none,none⟩,σ))(r1:RT Φ elt tg cd fr x1 [] σ [y1] σ)(r2:RT Φ elt tg cd fr x2 [y1] σ [y1,y2] σ):RE Φ (.lcomp elt tg kk it cd) fr σ (.loc σ.length) (σ++[.list [y1,y2]]):=
 RE.lc h h2 fun ρ H=>Js rfl (r1 ρ H) (Js rfl (r2 ρ H) (Ug rfl rfl))
theorem tup_last{l:List V}(h:l.length<lim):Jd .tuple [.loc σ.length] (σ++[.list l])=some (.tup l,σ++[.list l]):=by
 have e:Gn (.loc σ.length) (σ++[.list l])=some l:=by
  show(match(σ++[Ob.list l])[σ.length]? with
   |some (.list l)=>some l
   |_=>none)=_
  rw[List.getElem?_concat_length]
 exact bnI e (if_pos h)
theorem RE.dT{key vl:Ex}{n:Nat}{kt:List V}{kk:List Int}{acc:List (List Int×V)}(hk:RE Φ key (stf (TK.erf fr [n]) n x) σ (.tup kt) σ1)(hv:RE Φ vl (stf (TK.erf fr [n]) n x) σ1 y σ')(e:Je kt=some kk)(hl:acc.length<lim):∀ρ,Has ρ fr→dT Φ key vl n ρ x acc σ=some (dput acc kk y,σ'):=fun ρ H=>
 have H1:=(H.erf [n]).upd n x
 bnI (hk _ H1) (bnI rfl (bnI (hv _ H1) (bnI e (if_pos hl))))
theorem RE.dc{key vl:Ex}{n:Nat}{acc':List (List Int×V)}(h:RE Φ it fr σ v σ1)(h2:Gx .plain v σ1=some (src,σ2))(r:∀ρ,Has ρ fr→J3 src (TK.dT Φ key vl n ρ) src.items [] σ2=some (acc',σ')):RE Φ (.dcomp key vl n it) fr σ (.loc σ'.length) (σ'++[.dict acc']):=fun ρ H=>bnI (h ρ H) (bnI h2 (bnI (r ρ H) rfl))
theorem Has.nil{ρ:Fr}:Has ρ []:=fun _ _ e=>nomatch e
theorem Has.cons{ρ:Fr}{a:Nat}{u:V}(h1:ρ a=some u)(h2:Has ρ fr):Has ρ ((a,u)::fr):=fun x y e=>by
 have e:cond (Nat.beq a x) (some u) (lk fr x)=some y:=e;cases ha:Nat.beq a x with
 |true=>rw[ha]at e;rw[←Nat.eq_of_beq_eq_true ha];exact h1.trans e
 |false=>rw[ha]at e;exact h2 x y e
theorem Has.two{ρ:Fr}{a b:Nat}{u w:V}(h1:ρ a=some u)(h2:ρ b=some w):Has ρ [(a,u),(b,w)]:=.cons h1 (.cons h2 .nil)
theorem RE.two{e:Ex}{a b:Nat}{u w:V}(h1:lk fr a=some u)(h2:lk fr b=some w)(h:RE Φ e [(a,u),(b,w)] σ v σ'):RE Φ e fr σ v σ':=fun ρ H=>h ρ (Has.two (H a u h1) (H b w h2))
theorem RE.three{e:Ex}{a b c:Nat}{u w z:V}(h1:lk fr a=some u)(h2:lk fr b=some w)(h3:lk fr c=some z)(h:RE Φ e [(a,u),(b,w),(c,z)] σ v σ'):RE Φ e fr σ v σ':=fun ρ H=>h ρ (.cons (H a u h1) (Has.two (H b w h2) (H c z h3)))
theorem Jq{fr:AL}{n:Nat}{v:V}:lk (stf fr n v) n=some v:=by rw[lk_stf,Nat.beq_refl];rfl
theorem RE.ld{it2:Ex}{n m:Nat}{k2:ItK}(h:RE Φ it fr σ v σ1)(h2:Gx kk v σ1=some (src,σ2))(r:∀ρ,Has ρ fr→J3 src (l2T Φ elt n m k2 it2 ρ) src.items [] σ2=some (acc',σ')):RE Φ (.lcomp2 elt n kk it m k2 it2) fr σ (.loc σ'.length) (σ'++[.list acc']):=fun ρ H=>bnI (h ρ H) (bnI h2 (bnI (r ρ H) rfl))
noncomputable def Blk.nth:Blk→Nat→St
 |.nil,_=>.stuck
 |.cons s _,0=>s
 |.cons _ b,n+1=>b.nth n
noncomputable def St.bd(s:St):Blk:=match s with
 |.ite _ a _=>a
 |.loop _ b=>b
 |.for _ _ _ b=>b
 |_=>.nil
noncomputable def bo(f:Nat)(p:List Nat):Blk:=p.foldl (fun b i=>(b.nth i).bd) (prog[f]?.elim .nil Fn.body)
end
abbrev Qx:=Nat×Nat
noncomputable def mV(m:Qx):V:=.tup [.int (m.1:Int),.int (m.2:Int)]
noncomputable def mK(m:Qx):List Int:=[(m.1:Int),(m.2:Int)]
noncomputable def okI:Nat→Qx→List Int
 |0,m=>[(m.1:Int),(m.2:Int)]
 |1,m=>[((m.1+m.2:Nat):Int),(m.1:Int),(m.2:Int)]
 |_,m=>[((m.1+m.2:Nat):Int),-(m.2:Int),-(m.1:Int)]
noncomputable def okV(o:Nat)(m:Qx):V:=.tup ((okI o m).map V.int)
noncomputable def Gq(a b:Qx):Qx:=(a.1+b.1,a.2+b.2)
noncomputable def Gu(a b:Qx):Qx:=(a.1-b.1,a.2-b.2)
noncomputable def G9(a b:Qx):Qx:=(max a.1 b.1,max a.2 b.2)
noncomputable def Y3(a b:Qx):Qx:=(min a.1 b.1,min a.2 b.2)
noncomputable def Gf(a b:Qx):Bool:=decide (a.1≤b.1)&&decide (a.2≤b.2)
section
variable{N k:Nat}{σ:Sto}{Φ:Calls}
theorem s2(a b:Nat):(0+(a:Int)+(b:Int))=((a+b:Nat):Int):=by rw[Int.zero_add];rfl
theorem sum_m{m:Qx}:Jd .sum [mV m] σ=some (.int ((m.1+m.2:Nat):Int),σ):=congrArg (fun z=>some (V.int z,σ)) (s2 m.1 m.2)
theorem lim_0:0<lim:=by decide
theorem lim_1:1<lim:=by decide
theorem lim_2:2<lim:=by decide
theorem c_order_key{o:Nat}(ho:o<3)(m:Qx):∃τ,G0 prog N (k+1) 0 [.str o,mV m] σ=some (okV o m,σ++τ):=by
 match o,ho with
 |0,_=>exact⟨[],(Qp σ).symm▸rfl⟩
 |1,_=>exact⟨[],(Qp σ).symm▸congrArg (fun z=>some (V.tup [.int z,.int (m.1:Int),.int (m.2:Int)],σ)) (s2 m.1 m.2)⟩
 |2,_=>
  have e:=wF N k 0 [.str 2,mV m] σ rfl rfl rfl rfl rfl rfl sum_m
   (lc2 (tg:=.one 2) (wE _ (.rev (.var 1)) [(0,.str 2),(1,mV m)] σ lim_2) rfl (RT.one rfl (wE _ (.neg (.var 2)) [(0,.str 2),(1,mV m),(2,.int (m.2:Int))] σ) lim_0) (RT.one rfl (wE _ (.neg (.var 2)) [(0,.str 2),(1,mV m),(2,.int (m.1:Int))] σ) lim_1))
   (tup_last (l:=[_,_]) lim_2) rfl
  exact⟨_,e⟩
noncomputable def tw(f:Int→Int→Int)(a b:Qx):List V:=[V.int (f a.1 b.1),V.int (f a.2 b.2)]
theorem zip2{elt:Ex}{a b:Qx}(f:Int→Int→Int)(h:∀i x y,Jg (mV b) (.int i) σ=some (.int y)→RE Φ elt [(3,mV a),(4,mV b),(5,.int i),(2,.int x)] σ (.int (f x y)) σ):RE Φ (.lcomp elt (.many [5,2]) .enum (.var 3) .no) [(3,mV a),(4,mV b)] σ (.loc σ.length) (σ++[.list (tw f a b)]):=
 lc2 (wE _ (.var 3) [(3,mV a),(4,mV b)] σ) rfl (RT.one rfl (h _ _ _ rfl) lim_0) (RT.one rfl (h _ _ _ rfl) lim_1)
theorem tw_eq{f:Int→Int→Int}{a b c:Qx}(h1:f a.1 b.1=(c.1:Int))(h2:f a.2 b.2=(c.2:Int)):V.tup (tw f a b)=mV c:=by
 unfold tw;rw[h1,h2];rfl
theorem tw_ok{f:Int→Int→Int}{a b c:Qx}(h1:f a.1 b.1=(c.1:Int))(h2:f a.2 b.2=(c.2:Int)):Jd .tuple [.loc σ.length] (σ++[.list (tw f a b)])=some (mV c,σ++[.list (tw f a b)]):=
 tw_eq h1 h2▸tup_last (l:=tw f a b) lim_2
theorem c_product(a b:Qx):∃τ,G0 prog N (k+1) 1 [mV a,mV b] σ=some (mV (Gq a b),σ++τ):=
 ⟨_,wF N k 1 [mV a,mV b] σ (zip2 (· +·) fun i x _ h=>wE _ (.bin .add (.var 2) (.sub (.var 4) (.var 5))) [(3,mV a),(4,mV b),(5,.int i),(2,.int x)] σ h) (tw_ok (c:=Gq a b) rfl rfl)⟩
theorem c_quotient{a b:Qx}(h:Gf b a=true):∃τ,G0 prog N (k+1) 3 [mV a,mV b] σ=some (mV (Gu a b),σ++τ):=by
 unfold Gf at h;rw[Qc]at h;exact⟨_,wF N k 3 [mV a,mV b] σ (zip2 (· -·) fun i x _ h=>wE _ (.bin .sub (.var 2) (.sub (.var 4) (.var 5))) [(3,mV a),(4,mV b),(5,.int i),(2,.int x)] σ h) (tw_ok (c:=Gu a b) (Int.ofNat_sub (of_decide_eq_true h.1)).symm (Int.ofNat_sub (of_decide_eq_true h.2)).symm)⟩
noncomputable def iMax(x y:Int):Int:=if x<y then y else x
noncomputable def iMin(x y:Int):Int:=if y<x then y else x
theorem max_cast(x y:Nat):iMax (x:Int) (y:Int)=((max x y:Nat):Int):=by unfold iMax;split<;>lia
theorem min_cast(x y:Nat):iMin (x:Int) (y:Int)=((min x y:Nat):Int):=by unfold iMin;split<;>lia
theorem max_ok{x y:Int}:Jd .max [.int x,.int y] σ=some (.int (iMax x y),σ):=rfl
theorem min2_ok{x y:Int}:Jd .min [.int x,.int y] σ=some (.int (iMin x y),σ):=rfl
theorem c_join(a b:Qx):∃τ,G0 prog N (k+1) 4 [mV a,mV b] σ=some (mV (G9 a b),σ++τ):=
 ⟨_,wF N k 4 [mV a,mV b] σ (zip2 iMax fun i x _ h=>wE _ (.prim .max (.cons (.var 2) (.cons (.sub (.var 4) (.var 5)) .nil))) [(3,mV a),(4,mV b),(5,.int i),(2,.int x)] σ h max_ok) (tw_ok (c:=G9 a b) (max_cast _ _) (max_cast _ _))⟩
theorem c_meet(a b:Qx):∃τ,G0 prog N (k+1) 5 [mV a,mV b] σ=some (mV (Y3 a b),σ++τ):=
 ⟨_,wF N k 5 [mV a,mV b] σ (zip2 iMin fun i x _ h=>wE _ (.prim .min (.cons (.var 2) (.cons (.sub (.var 4) (.var 5)) .nil))) [(3,mV a),(4,mV b),(5,.int i),(2,.int x)] σ h min2_ok) (tw_ok (c:=Y3 a b) (min_cast _ _) (min_cast _ _))⟩
theorem eq0(n:Nat):decide ((n:Int)=0)=decide (n=0):=decide_eq_decide.mpr (Int.natCast_inj (n:=0))
theorem c_apart(a b:Qx):∃τ,G0 prog N (k+2) 6 [mV a,mV b] σ=some (.bool (decide ((Y3 a b).1+(Y3 a b).2=0)),σ++τ):=by
 refine z11 (c_meet (N:=N) (k:=k) (σ:=σ) a b) fun τ h=>⟨τ,?_⟩
 rw[←eq0];exact wF N (k+1) 6 [mV a,mV b] σ h sum_m
theorem nlt(x y:Nat):(!decide ((y:Int)<x))=decide (x≤y):=(decide_not ..).symm.trans (decide_eq_decide.mpr (Int.not_lt.trans Int.ofNat_le))
theorem c_divides(a b:Qx):G0 prog N (k+1) 2 [mV a,mV b] σ=some (.bool (Gf a b),σ):=by
 have key:∀t1 t2,decide ((b.1:Int)<a.1)=t1→decide ((b.2:Int)<a.2)=t2→G0 prog N (k+1) 2 [mV a,mV b] σ=some (.bool (!t1&& !t2),σ):=fun t1 t2 h1 h2=>by
  have h3:RE (G0 prog N k) (.var 3) [(3,mV a),(4,mV b)] σ (mV a) σ:=wE _ (.var 3) [(3,mV a),(4,mV b)] σ;have w1:=fun(r:Bool) (e:decide ((b.1:Int)<a.1)=r)=>wB (G0 prog N k) N (bo 2 [0]) [(4,mV b),(5,.int 0),(2,.int a.1)] σ rfl e;have w2:=fun(r:Bool) (e:decide ((b.2:Int)<a.2)=r)=>wB (G0 prog N k) N (bo 2 [0]) [(4,mV b),(5,.int 1),(2,.int a.2)] σ rfl e;cases t1 with
  |true=>exact wF N k 2 [mV a,mV b] σ (RF.for h3 rfl [4] (RF.ret rfl rfl (w1 true h1) rfl rfl))
  |false=>cases t2 with
   |true=>exact wF N k 2 [mV a,mV b] σ (RF.for h3 rfl [4] (RF.cons rfl rfl (w1 false h1) trivial [4] (RF.ret rfl rfl (w2 true h2) rfl rfl)))
   |false=>exact wF N k 2 [mV a,mV b] σ (RF.for h3 rfl [4] (RF.cons rfl rfl (w1 false h1) trivial [4] (RF.cons rfl rfl (w2 false h2) trivial [4] (RF.nil rfl rfl))))
 rw[key _ _ rfl rfl,nlt,nlt];rfl
end
noncomputable def Gg(q:Rat):V:=.tup [.int q.num,.int (q.den:Int)]
section
variable{N k:Nat}{σ:Sto}{Φ:Calls}
theorem modn_ok{x y:Nat}(h:(y:Int)≠0):Jx .mod (.int (x:Int)) (.int (y:Int)) σ=some (.int ((x%y:Nat):Int),σ):=(if_neg h).trans (by rw[←Int.ofNat_fmod])
theorem fdiv_ok{x y:Int}(h:y≠0):Jx .fdiv (.int x) (.int y) σ=some (.int (x.fdiv y),σ):=if_neg h
theorem nd{p:Prop}[Decidable p](h:¬p):(!decide p)=true:=by rw[decide_eq_false h];rfl
theorem gcd_loop:∀(n x y:Nat),y<n→RW Φ N n (.cmp .ne (.var 4) (.int 0)) (bo 7 [1]) [(3,.int (x:Int)),(4,.int (y:Int))] σ .next [(3,.int ((Nat.gcd x y:Nat):Int)),(4,.int 0)] σ
 |n+1,x,0,h=>by
  rw[Nat.gcd_zero_right];exact RW.stop (wE _ (.cmp .ne (.var 4) (.int 0)) [(3,.int (x:Int)),(4,.int 0)] σ) rfl
 |n+1,x,y+1,h=>by
  rw[Nat.gcd_comm x,Nat.gcd_rec,Nat.gcd_comm];have h0:((y+1:Nat):Int)≠0:=fun e=>nomatch Int.ofNat.inj e;exact RW.turn (wE _ (.cmp .ne (.var 4) (.int 0)) [(3,.int (x:Int)),(4,.int ((y+1:Nat):Int))] σ) (nd h0) (wB Φ N (bo 7 [1]) [(3,.int (x:Int)),(4,.int ((y+1:Nat):Int))] σ (modn_ok h0)) [3,4] (gcd_loop n (y+1) (x%(y+1)) (Nat.lt_of_lt_of_le (Nat.mod_lt x (Nat.succ_pos y)) (Nat.le_of_lt_succ h))) trivial
theorem c_gcd{a b:Int}(h:b.natAbs<N):G0 prog N (k+1) 7 [.int a,.int b] σ=some (.int ((a.natAbs.gcd b.natAbs:Nat):Int),σ):=
 wF N k 7 [.int a,.int b] σ rfl rfl (RW.loop [3,4] (gcd_loop N a.natAbs b.natAbs h))
noncomputable def Big(N:Nat):Prop:=∀n:Nat,n.log2<1000000→n<N
theorem c_rat{t b:Int}(hN:Big N)(hb:b≠0)(hf:b.natAbs.log2<1000000):G0 prog N (k+2) 9 [.int t,.int b] σ=some (Gg (Rat.divInt t b),σ):=by
 have hg:=c_gcd (k:=k) (σ:=σ) (a:=t) (hN _ hf);have gpos:0<t.natAbs.gcd b.natAbs:=Nat.gcd_pos_of_pos_right _ (by lia);have hne:((t.natAbs.gcd b.natAbs:Nat):Int)≠0:=by lia
 have hgc:b.gcd t=t.natAbs.gcd b.natAbs:=by unfold Int.gcd;exact Nat.gcd_comm _ _
 have hden:(Rat.divInt t b).den=b.natAbs/t.natAbs.gcd b.natAbs:=by rw[Rat.den_divInt,if_neg hb,hgc]
 by_cases hp:(0:Int)<b
 ·have h1:(Rat.divInt t b).num=t.fdiv (t.natAbs.gcd b.natAbs:Nat):=by
   rw[Rat.num_divInt,Int.sign_eq_one_of_pos hp,Int.one_mul,hgc,Int.fdiv_eq_ediv_of_nonneg _ (by lia)]
  have h2:((Rat.divInt t b).den:Int)=b.fdiv (t.natAbs.gcd b.natAbs:Nat):=by
   rw[hden,Int.fdiv_eq_ediv_of_nonneg _ (by lia),Int.natCast_ediv];congr 1;lia
  unfold Gg;rw[h1,h2];exact wF N (k+1) 9 [.int t,.int b] σ (decide_eq_false hb) (decide_eq_true hp) hg (fdiv_ok hne) (fdiv_ok hne)
 ·have hneg:b<0:=by lia
  have hne': -((t.natAbs.gcd b.natAbs:Nat):Int)≠0:=by lia
  have h1:(Rat.divInt t b).num=t.fdiv (-((t.natAbs.gcd b.natAbs:Nat):Int)):=by
   rw[Rat.num_divInt,Int.sign_eq_neg_one_of_neg hneg,hgc];have:=Int.neg_fdiv_neg (-t) ((t.natAbs.gcd b.natAbs:Nat):Int);rw[Int.neg_neg]at this;rw[this,Int.fdiv_eq_ediv_of_nonneg _ (by lia)];congr 1;lia
  have h2:((Rat.divInt t b).den:Int)=b.fdiv (-((t.natAbs.gcd b.natAbs:Nat):Int)):=by
   rw[hden];have:=Int.neg_fdiv_neg (-b) ((t.natAbs.gcd b.natAbs:Nat):Int);rw[Int.neg_neg]at this;rw[this,Int.fdiv_eq_ediv_of_nonneg _ (by lia),Int.natCast_ediv];congr 1;lia
  unfold Gg;rw[h1,h2,←Int.zero_sub];rw[←Int.zero_sub]at hne';exact wF N (k+1) 9 [.int t,.int b] σ (decide_eq_false hb) (decide_eq_false hp) hg (fdiv_ok hne') (fdiv_ok hne')
end
noncomputable def sz(q:Rat):Prop:=q.num.natAbs.log2<200000∧q.den.log2<200000
theorem log2_mul{a b p q:Nat}(ha:a.log2<p)(hb:b.log2<q):(a*b).log2<p+q:=by
 by_cases h1:a=0
 ·subst h1;simp;exact Jl (Y6 _ _ _) 1 (.num 0) (.add (.var 0) (.var 1)) [Ge 1 (.var 2) (.var 1)] rfl hb
 by_cases h2:b=0
 ·subst h2;simp;exact Jl (Y6 _ _ _) 1 (.num 0) (.add (.var 0) (.var 1)) [Ge 1 (.var 2) (.var 0)] rfl ha
 rw[Nat.log2_lt (Nat.mul_ne_zero h1 h2),Nat.pow_add];rw[Nat.log2_lt h1]at ha;rw[Nat.log2_lt h2]at hb;exact Nat.mul_lt_mul'' ha hb
theorem sz.n{q:Rat}(h:sz q):fits q.num=true:=by
 unfold fits;simp only[Q9];exact Nat.lt_trans h.1 (by decide)
theorem sz.d{q:Rat}(h:sz q):fits (q.den:Int)=true:=by
 unfold fits;simp only[Q9,Int.natAbs_natCast];exact Nat.lt_trans h.2 (by decide)
section
variable{N k:Nat}{σ:Sto}{Φ:Calls}
theorem sub_0{x y:V}:Jg (.tup [x,y]) (.int 0) σ=some x:=rfl
theorem sub_1{x y:V}:Jg (.tup [x,y]) (.int 1) σ=some y:=rfl
theorem Ym{a b:Int}(ha:fits a=true)(hb:fits b=true):Jx .mul (.int a) (.int b) σ=some (.int (a*b),σ):=if_pos (by rw[ha,hb];rfl)
theorem add_ok{a b:Int}:Jx .add (.int a) (.int b) σ=some (.int (a+b),σ):=rfl
theorem min_ok{a b:Int}:Jx .sub (.int a) (.int b) σ=some (.int (a-b),σ):=rfl
theorem c_radd{a b:Rat}(hN:Big N)(ha:sz a)(hb:sz b):G0 prog N (k+3) 10 [Gg a,Gg b] σ=some (Gg (a+b),σ):=by
 have hd:((a.den:Int)*(b.den:Int))≠0:=Int.mul_ne_zero (by have:=a.den_nz;lia) (by have:=b.den_nz;lia);have hl:((a.den:Int)*(b.den:Int)).natAbs.log2<1000000:=by
  rw[Int.natAbs_mul,Int.natAbs_natCast,Int.natAbs_natCast];exact Nat.lt_of_lt_of_le (log2_mul ha.2 hb.2) (by decide)
 have hs:a+b=Rat.divInt (a.num*b.den+b.num*a.den) ((a.den:Int)*(b.den:Int)):=by
  rw[←Rat.divInt_add_divInt _ _ (by have:=a.den_nz;lia) (by have:=b.den_nz;lia),Rat.num_divInt_den,Rat.num_divInt_den]
 have h:=c_rat (N:=N) (k:=k) (σ:=σ) (t:=a.num*b.den+b.num*a.den) hN hd hl;rw[hs];exact wF N (k+2) 10 [Gg a,Gg b] σ rfl rfl (Ym ha.n hb.d) rfl rfl (Ym hb.n ha.d) rfl rfl (Ym ha.d hb.d) h
theorem c_rmul{a b:Rat}(hN:Big N)(ha:sz a)(hb:sz b):G0 prog N (k+3) 11 [Gg a,Gg b] σ=some (Gg (a*b),σ):=by
 have hd:((a.den:Int)*(b.den:Int))≠0:=Int.mul_ne_zero (by have:=a.den_nz;lia) (by have:=b.den_nz;lia);have hl:((a.den:Int)*(b.den:Int)).natAbs.log2<1000000:=by
  rw[Int.natAbs_mul,Int.natAbs_natCast,Int.natAbs_natCast];exact Nat.lt_of_lt_of_le (log2_mul ha.2 hb.2) (by decide)
 have hs:a*b=Rat.divInt (a.num*b.num) ((a.den:Int)*(b.den:Int)):=by
  rw[←Rat.divInt_mul_divInt,Rat.num_divInt_den,Rat.num_divInt_den]
 have h:=c_rat (N:=N) (k:=k) (σ:=σ) (t:=a.num*b.num) hN hd hl;rw[hs];exact wF N (k+2) 11 [Gg a,Gg b] σ rfl rfl (Ym ha.n hb.n) rfl rfl (Ym ha.d hb.d) h
theorem c_rdiv{a b:Rat}(hN:Big N)(ha:sz a)(hb:sz b)(h0:b≠0):G0 prog N (k+3) 12 [Gg a,Gg b] σ=some (Gg (a/b),σ):=by
 have hn:b.num≠0:=fun h=>h0 (Rat.num_eq_zero.mp h);have hd:((a.den:Int)*b.num)≠0:=Int.mul_ne_zero (by have:=a.den_nz;lia) hn;have hl:((a.den:Int)*b.num).natAbs.log2<1000000:=by
  rw[Int.natAbs_mul,Int.natAbs_natCast];exact Nat.lt_of_lt_of_le (log2_mul ha.2 hb.1) (by decide)
 have hs:a/b=Rat.divInt (a.num*b.den) ((a.den:Int)*b.num):=by
  rw[←Rat.divInt_mul_divInt,Rat.num_divInt_den,Rat.div_def,Rat.inv_def]
 have h:=c_rat (N:=N) (k:=k) (σ:=σ) (t:=a.num*b.den) hN hd hl;rw[hs];exact wF N (k+2) 12 [Gg a,Gg b] σ rfl rfl (Ym ha.n hb.d) rfl rfl (Ym ha.d hb.n) h
theorem c_rneg(a:Rat):G0 prog N (k+1) 13 [Gg a] σ=some (Gg (-a),σ):=by
 unfold Gg;rw[Rat.neg_num,Rat.neg_den,←Int.zero_sub];exact wF N k 13 [Gg a] σ rfl rfl
theorem c_rinv{a:Rat}(hN:Big N)(ha:sz a)(h0:a≠0):G0 prog N (k+3) 14 [Gg a] σ=some (Gg a⁻¹,σ):=by
 have hn:a.num≠0:=fun h=>h0 (Rat.num_eq_zero.mp h);have h:=c_rat (N:=N) (k:=k) (σ:=σ) (t:=(a.den:Int)) hN hn (Nat.lt_trans ha.1 (by decide));rw[Rat.inv_def];exact wF N (k+2) 14 [Gg a] σ rfl rfl h
end
theorem log2_div{n m:Nat}(h:2^m≤n):(n/2^m).log2+m=n.log2:=by
 have hp:0<2^m:=Nat.pow_pos (by decide);have hn:n≠0:=by exact fun hq=>linf (G6 _ _) [Gb 1 (.var 0) (.var 1),Ge 1 (.num 0) (.var 0),Gp 1 (.var 1) (.num 0)] rfl h hp hq
 have hk:=(Nat.log2_eq_iff hn (k:=n.log2)).mp rfl;have hmk:m≤n.log2:=by rw[Nat.le_log2 hn];exact h
 have hq:n/2^m≠0:=by
  have:=Nat.div_pos h hp;exact fun hq=>linf (.leaf _) [Ge 1 (.num 0) (.var 0),Gp 1 (.var 0) (.num 0)] rfl this hq
 have:(n/2^m).log2=n.log2-m:=by
  rw[Nat.log2_eq_iff hq];refine⟨?_,?_⟩
  ·rw[Nat.le_div_iff_mul_le hp,←Nat.pow_add,Nat.sub_add_cancel hmk];exact hk.1
  ·rw[Nat.div_lt_iff_lt_mul hp,←Nat.pow_add];have:n.log2-m+1+m=n.log2+1:=by lia
   rw[this];exact hk.2
 lia
section
variable{N k:Nat}{σ:Sto}{Φ:Calls}
theorem binop_pow{a b:Int}:Jx .pow (.int a) (.int b) σ=if 0≤b∧b<100000∧a.natAbs<100 then some (.int (a^b.toNat),σ)else none:=rfl
theorem pow_ok{b:Nat}(hb:b<100000):Jx .pow (.int 2) (.int (b:Int)) σ=some (.int ((2^b:Nat):Int),σ):=by
 rw[binop_pow,if_pos ⟨by lia,by lia,by decide⟩];congr 4
theorem div_ok{a b:Nat}(hb:b≠0):Jx .fdiv (.int (a:Int)) (.int (b:Int)) σ=some (.int ((a/b:Nat):Int),σ):=(fdiv_ok (fun h=>hb (Int.ofNat.inj h))).trans (congrArg (fun z=>some (V.int z,σ)) (Int.fdiv_eq_ediv_of_nonneg _ (Int.natCast_nonneg b)))
theorem ge_ok{a b:Int}:Gy .ge (.int a) (.int b) σ=some (decide (b≤a)):=rfl
theorem gt_ok{a b:Int}:Gy .gt (.int a) (.int b) σ=some (decide (b<a)):=rfl
theorem lt_ok{a b:Int}:Gy .lt (.int a) (.int b) σ=some (decide (a<b)):=rfl
theorem eqi_ok{a b:Int}:Gy .eq (.int a) (.int b) σ=some (decide (a=b)):=rfl
theorem nei_ok{a b:Int}:Gy .ne (.int a) (.int b) σ=some (!decide (a=b)):=rfl
noncomputable def bF(m n f:Nat):AL:=[(6,.int (n:Int)),(7,.int (f:Int)),(8,.int (m:Int)),(9,.int ((2^m:Nat):Int))]
theorem bits_loop{m:Nat}(hm:0<m):∀(fuel n f:Nat),n<fuel→1≤n→∃n' f',RW Φ N fuel (.cmp .ge (.var 6) (.var 9)) (bo 8 [1,1]) (bF m n f) σ .next (bF m n' f') σ∧1≤n'∧n'<2^m∧n'≤n∧f'+n'.log2=f+n.log2:=by
 intro fuel;induction fuel with
 |zero=>intro n f h;exact absurd h (Nat.not_lt_zero n)
 |succ fuel ih=>
  intro n f h h1;by_cases hge:2^m≤n
  ·have hp:2≤2^m:=Nat.pow_le_pow_right (n:=2) (i:=1) (by decide) hm;have hp0:0<2^m:=Nat.lt_of_lt_of_le (by decide) hp;have hd:n/2^m<n:=Nat.div_lt_self h1 hp;refine(ih (n/2^m) (f+m) (Nat.lt_of_lt_of_le hd (Nat.le_of_lt_succ h)) (Nat.div_pos hge hp0)).elim fun n' h=>h.elim fun f' h=>⟨n',f',RW.turn (wE _ (.cmp .ge (.var 6) (.var 9)) (bF m n f) σ) (decide_eq_true (Int.ofNat_le.mpr hge)) (wB Φ N (bo 8 [1,1]) (bF m n f) σ (div_ok (Nat.ne_of_gt hp0))) [6,7,8,9] h.1 trivial,h.2.1,h.2.2.1,Nat.le_trans h.2.2.2.1 (Nat.le_of_lt hd),h.2.2.2.2.trans ?_⟩
   rw[←log2_div hge,Nat.add_assoc,Nat.add_comm m]
  ·exact⟨n,f,RW.stop (wE _ (.cmp .ge (.var 6) (.var 9)) (bF m n f) σ) (decide_eq_false (fun h=>hge (Int.ofNat_le.mp h))),h1,Nat.lt_of_not_le hge,Qs _,rfl⟩
theorem bits_turn{m n f:Nat}(hm:0<m)(hl:m<100000)(hn:n<N)(h1:1≤n):∃n' f',QB Φ N (bo 8 [1]) [(6,.int (n:Int)),(7,.int (f:Int)),(8,.int (m:Int))] σ .next (bF m n' f') σ∧1≤n'∧n'<2^m∧n'≤n∧f'+n'.log2=f+n.log2:=
 (bits_loop hm N n f hn h1).elim fun n' h=>h.elim fun f' h=>⟨n',f',wB Φ N (bo 8 [1]) [(6,.int (n:Int)),(7,.int (f:Int)),(8,.int (m:Int))] σ (pow_ok hl) (RW.loop [6,7,8,9] h.1),h.2⟩
theorem c_bits{n:Nat}(h1:1≤n)(hn:n<N):G0 prog N (k+1) 8 [.int (n:Int)] σ=some (.int ((n.log2+1:Nat):Int),σ):=by
 refine cps fun qG qK=>?_;obtain⟨n1,f1,a1,a2,a3,a4,a5⟩:=bits_turn (Φ:=G0 prog N k) (σ:=σ) (m:=4096) (f:=0) (by decide) (by decide) hn h1;obtain⟨n2,f2,b1,b2,b3,b4,b5⟩:=bits_turn (Φ:=G0 prog N k) (σ:=σ) (m:=64) (f:=f1) (by decide) (by decide) (Nat.lt_of_le_of_lt a4 hn) a2;obtain⟨n3,f3,c1,c2,c3,c4,c5⟩:=bits_turn (Φ:=G0 prog N k) (σ:=σ) (m:=1) (f:=f2) (by decide) (by decide) (Nat.lt_of_le_of_lt b4 (Nat.lt_of_le_of_lt a4 hn)) b2;refine qK ?_;have e:G0 prog N (k+1) 8 [.int (n:Int)] σ=some (.int ((f3:Int)+(n3:Int)),σ):=wF N k 8 [.int (n:Int)] σ (RF.for (wE _ (.tup (.cons (.int 4096) (.cons (.int 64) (.cons (.int 1) .nil)))) [(6,.int (n:Int)),(7,.int 0)] σ) rfl [6,7] (RF.cons rfl rfl a1 trivial [6,7] (RF.cons rfl rfl b1 trivial [6,7] (RF.cons rfl rfl c1 trivial [6,7] (RF.nil rfl rfl)))));have h3:n3=1:=Nat.le_antisymm (Nat.le_of_lt_succ c3) c2;rw[e,←Int.natCast_add];rw[h3]at c5⊢;have hl:Nat.log2 1=0:=by decide
 rw[hl,b5,a5,Nat.add_zero,Nat.zero_add]at c5;rw[c5]
theorem c_vast{q:Rat}(hN:Big N)(hq:sz q):G0 prog N (k+2) 15 [Gg q] σ=some (.bool false,σ):=by
 have hmx:∃g:Nat,iMax (q.num.natAbs:Int) (q.den:Int)=(g:Int)∧g.log2<200000:=by
  unfold iMax;split
  ·exact⟨_,rfl,hq.2⟩
  ·exact⟨_,rfl,hq.1⟩
 refine z12 hmx fun g hg hl=>?_;have mx:Jd .max [.int (q.num.natAbs:Int),.int (q.den:Int)] σ=some (.int (g:Int),σ):=max_ok.trans (by rw[hg]);by_cases h:((2^64:Nat):Int)≤(g:Int)
 ·have hg1:1≤g:=Nat.le_trans (by decide) (Int.ofNat_le.mp h);have e:=wF N (k+1) 15 [Gg q] σ rfl rfl rfl mx (pow_ok (b:=64) (by decide)) (decide_eq_true h) (c_bits (k:=k) (σ:=σ) hg1 (hN g (Nat.lt_trans hl (by decide))));rw[e,decide_eq_false];exact fun h=>Nat.lt_irrefl _ (Nat.lt_of_lt_of_le (Int.ofNat_lt.mp h) hl)
 ·exact wF N (k+1) 15 [Gg q] σ rfl rfl rfl mx (pow_ok (b:=64) (by decide)) (decide_eq_false h)
end
abbrev Tm:=List (Qx×Rat)
noncomputable def Qy(T:Tm):List (List Int×V):=T.map fun x=>(mK x.1,Gg x.2)
noncomputable def Jb:Tm→Qx→Option Rat
 |[],_=>none
 |(k,v)::r,x=>if k=x then some v else Jb r x
noncomputable def tput:Tm→Qx→Rat→Tm
 |[],x,v=>[(x,v)]
 |(k,u)::r,x,v=>if k=x then(k,v)::r else(k,u)::tput r x v
noncomputable def tdel:Tm→Qx→Tm
 |[],_=>[]
 |(k,u)::r,x=>if k=x then r else(k,u)::tdel r x
noncomputable def ttot(T:Tm)(m:Qx)(q:Rat):Rat:=match Jb T m with
 |some x=>x+q
 |none=>q
noncomputable def tadd(T:Tm)(m:Qx)(q:Rat):Tm:=if ttot T m q=0 then tdel T m else tput T m (ttot T m q)
noncomputable def keys(T:Tm):List Qx:=T.map (·.1)
theorem mK_inj{a b:Qx}:mK a=mK b↔a=b:=by
 obtain⟨a1,a2⟩:=a;obtain⟨b1,b2⟩:=b;simp[mK];lia
theorem keyOf_mK(m:Qx):Je [.int (m.1:Int),.int (m.2:Int)]=some (mK m):=rfl
theorem keyV_mK(m:Qx):keyV (mK m)=mV m:=rfl
theorem rows_keys(T:Tm):((Qy T).map fun e=>keyV e.1)=T.map fun x=>mV x.1:=by simp[Qy,keyV_mK]
theorem rows_len(T:Tm):(Qy T).length=T.length:=by simp[Qy]
theorem U4:∀(T:Tm) (m:Qx),Ue (Qy T) (mK m)=(Jb T m).map Gg
 |[],_=>rfl
 |(k,v)::r,m=>by
  simp only[Qy,Q7,Ue,Jb];by_cases h:k=m
  ·subst h;simp
  ·have:mK k≠mK m:=fun e=>h (mK_inj.mp e);rw[if_neg this,if_neg h];exact U4 r m
theorem dput_rows:∀(T:Tm) (m:Qx) (q:Rat),dput (Qy T) (mK m) (Gg q)=Qy (tput T m q)
 |[],_,_=>rfl
 |(k,v)::r,m,q=>by
  simp only[Qy,Q7,dput,tput];by_cases h:k=m
  ·subst h;simp
  ·have:mK k≠mK m:=fun e=>h (mK_inj.mp e);rw[if_neg this,if_neg h,Q7];congr 1;exact dput_rows r m q
theorem ddel_rows:∀(T:Tm) (m:Qx),ddel (Qy T) (mK m)=Qy (tdel T m)
 |[],_=>rfl
 |(k,v)::r,m=>by
  simp only[Qy,Q7,ddel,tdel];by_cases h:k=m
  ·subst h;simp
  ·have:mK k≠mK m:=fun e=>h (mK_inj.mp e);rw[if_neg this,if_neg h,Q7];congr 1;exact ddel_rows r m
theorem tdel_none:∀{T:Tm} {m:Qx},Jb T m=none→tdel T m=T
 |[],_,_=>rfl
 |(k,v)::r,m,h=>by
  simp only[Jb]at h;split at h
  ·cases h
  ·rename_i hk;simp only[tdel,if_neg hk,tdel_none h]
theorem Us:∀{T:Tm} {m:Qx} {q:Rat},Jb T m=some q→(m,q)∈T
 |(k,v)::r,m,q,h=>by
  simp only[Jb]at h;split at h
  ·rename_i hk;cases h;subst hk;exact .head _
  ·exact .tail _ (Us h)
theorem Ja:∀{T:Tm} {m:Qx},Jb T m=none↔m∉keys T
 |[],m=>by simp[Jb,keys]
 |(k,v)::r,m=>by
  have ih:=Ja (T:=r) (m:=m);simp only[Jb,keys,Q7,List.mem_cons];by_cases h:k=m
  ·subst h;simp
  ·rw[if_neg h,ih];constructor
   ·intro h1 h2;rcases h2 with h2|h2
    ·exact h h2.symm
    ·exact h1 h2
   ·intro h1 h2;exact h1 (.inr h2)
theorem Y5:∀{T:Tm} {m:Qx} {q:Rat},(keys T).Nodup→(m,q)∈T→Jb T m=some q
 |(k,v)::r,m,q,hn,h=>by
  simp only[keys,Q7,List.nodup_cons]at hn;simp only[Jb];rcases Q5 h with h|h
  ·cases h;simp
  ·have:k≠m:=fun e=>hn.1 (e▸Qj h);rw[if_neg this];exact Y5 hn.2 h
noncomputable def co(T:Tm)(m:Qx):Rat:=(Jb T m).getD 0
theorem tget_tput{T:Tm}{m:Qx}{q:Rat}(n:Qx):Jb (tput T m q) n=if m=n then some q else Jb T n:=by
 induction T with
 |nil=>simp[tput,Jb]
 |cons x r ih=>
  obtain⟨k,v⟩:=x;simp only[tput];by_cases h:k=m
  ·subst h;simp only[if_true,Jb];by_cases h2:k=n
   ·simp[h2]
   ·simp[h2]
  ·rw[if_neg h];simp only[Jb,ih];by_cases h2:k=n
   ·subst h2;rw[if_pos rfl,if_pos rfl,if_neg (Ne.symm h)]
   ·rw[if_neg h2,if_neg h2]
theorem keys_tput{T:Tm}{m:Qx}{q:Rat}:keys (tput T m q)=if m∈keys T then keys T else keys T++[m]:=by
 induction T with
 |nil=>simp[tput,keys]
 |cons x r ih=>
  obtain⟨k,v⟩:=x;simp only[tput];by_cases h:k=m
  ·subst h;simp[keys]
  ·rw[if_neg h];simp only[keys,Q7,List.mem_cons]at ih⊢;rw[ih];have h':¬m=k:=Ne.symm h;simp only[h',false_or];by_cases hm:m∈List.map (fun x=>x.fst) r
   ·simp[hm]
   ·simp[hm]
theorem U9{T:Tm}{m:Qx}:(tdel T m).Sublist T:=by
 induction T with
 |nil=>exact List.Sublist.refl _
 |cons x r ih=>
  obtain⟨k,v⟩:=x;simp only[tdel];split
  ·exact List.sublist_cons_self _ _
  ·exact ih.cons_cons _
theorem tget_tdel{T:Tm}{m:Qx}(hn:(keys T).Nodup)(n:Qx):Jb (tdel T m) n=if m=n then none else Jb T n:=by
 induction T with
 |nil=>simp[tdel,Jb]
 |cons x r ih=>
  obtain⟨k,v⟩:=x;simp only[keys,Q7,List.nodup_cons]at hn;simp only[tdel];by_cases h:k=m
  ·subst h;simp only[if_true,Jb];by_cases h2:k=n
   ·subst h2;simp only[if_true];exact Ja.mpr hn.1
   ·simp[h2]
  ·rw[if_neg h];simp only[Jb,ih hn.2];by_cases h2:k=n
   ·subst h2;rw[if_pos rfl,if_pos rfl,if_neg (Ne.symm h)]
   ·rw[if_neg h2,if_neg h2]
theorem tget_tadd{T:Tm}{m:Qx}{q:Rat}(hn:(keys T).Nodup){n:Qx}(h:n≠m):Jb (tadd T m q) n=Jb T n:=by
 unfold tadd;split
 ·rw[tget_tdel hn,if_neg (Ne.symm h)]
 ·rw[tget_tput,if_neg (Ne.symm h)]
theorem co_tadd{T:Tm}{m:Qx}{q:Rat}(hn:(keys T).Nodup)(n:Qx):co (tadd T m q) n=co T n+if n=m then q else 0:=by
 by_cases h:n=m
 ·subst h;rw[if_pos rfl];unfold co tadd;have ht:ttot T n q=(Jb T n).getD 0+q:=by
   unfold ttot;cases hg:Jb T n with
   |none=>simp;grind
   |some x=>simp
  split
  ·rename_i h0;rw[tget_tdel hn];simp;grind
  ·rw[tget_tput];simp[ht]
 ·unfold co;rw[tget_tadd hn h,if_neg h];grind
structure Ok(T:Tm):Prop where
 nodup:(keys T).Nodup
 small:∀x∈T,x.1.1<6∧x.1.2<6
 nz:∀x∈T,x.2≠0
theorem Uo{α:Type}[DecidableEq α]:∀{l L:List α},l.Nodup→(∀x∈l,x∈L)→l.length≤L.length
 |[],L,_,_=>Nat.zero_le _
 |x::l,L,hn,hs=>by
  rw[List.nodup_cons]at hn;have h1:x∈L:=hs x (.head _);have:=Uo (l:=l) (L:=L.erase x) hn.2 fun y hy=>by
   rw[List.mem_erase_of_ne (fun e:y=x=>hn.1 (e▸hy))];exact hs y (.tail _ hy)
  rw[List.length_erase_of_mem h1]at this;have hp:0<L.length:=List.length_pos_of_mem h1;simp only[Qa];lia
noncomputable def boxM:List Qx:=(List.range 6).flatMap fun i=>(List.range 6).map fun j=>(i,j)
theorem mem_box{m:Qx}(h:m.1<6∧m.2<6):m∈boxM:=by
 obtain⟨a,b⟩:=m;simp only[boxM,List.mem_flatMap,List.mem_map,List.mem_range];exact⟨a,h.1,b,h.2,rfl⟩
theorem Ok.len{T:Tm}(h:Ok T):T.length≤36:=by
 have:(keys T).length≤boxM.length:=Uo h.nodup fun x hx=>by
  obtain⟨y,hy,rfl⟩:=Qg hx;exact mem_box (h.small y hy)
 have hb:boxM.length=36:=by decide
 simp only[keys,Qi]at this;exact Gh (G6 _ _) 1 (.var 0) (.num 36) [Gp 1 (.var 1) (.num 36),Gb 1 (.var 0) (.var 1)] rfl hb this
theorem Ok.tadd{T:Tm}{m:Qx}{q:Rat}(h:Ok T)(hm:m.1<6∧m.2<6):Ok (tadd T m q):=by
 unfold TK.tadd;split
 ·exact⟨(U9.map _).nodup h.nodup,fun x hx=>h.small x (U9.subset hx),fun x hx=>h.nz x (U9.subset hx)⟩
 ·rename_i h0;have hk:=keys_tput (T:=T) (m:=m) (q:=ttot T m q);refine⟨?_,?_,?_⟩
  ·rw[hk];split
   ·exact h.nodup
   ·rename_i hm;rw[List.nodup_append];refine⟨h.nodup,by simp,fun a ha b hb e=>?_⟩;rw[Q2 hb]at e;exact hm (e▸ha)
  ·intro x hx;have:x.1∈keys (tput T m (ttot T m q)):=Qj hx;rw[hk]at this;split at this
   ·refine z12 (Qg this) fun y hy e=>?_;rw[←e];exact h.small y hy
   ·rcases Qh this with h1|h1
    ·refine z12 (Qg h1) fun y hy e=>?_;rw[←e];exact h.small y hy
    ·rw[Q2 h1];exact hm
  ·have key:∀(T:Tm) (v:Rat),v≠0→(∀x∈T,x.2≠0)→∀x∈tput T m v,x.2≠0:=by
    intro T v hv;induction T with
    |nil=>intro _ x hx;simp[tput]at hx;subst hx;exact hv
    |cons y r ih=>
     obtain⟨k,u⟩:=y;intro hT x hx;simp only[tput]at hx;split at hx
     ·rcases Q5 hx with rfl|hx
      ·exact hv
      ·exact hT x (.tail _ hx)
     ·rcases Q5 hx with rfl|hx
      ·exact hT _ (.head _)
      ·exact ih (fun x hx=>hT x (.tail _ hx)) x hx
   exact key T _ h0 h.nz
noncomputable def Sz(T:Tm):Prop:=∀x∈T,sz x.2
noncomputable def tsum(A B:Tm):Tm:=B.foldl (fun acc x=>tadd acc x.1 x.2) A
theorem Zn{σ:Sto}{n:Nat}{o:Ob}(h:σ[n]?=some o):σ.set n o=σ:=by
 apply List.ext_getElem?;intro i;rw[List.getElem?_set];split
 ·rename_i e;subst e;split
  ·exact h.symm
  ·rename_i hl;rw[List.getElem?_eq_none (by exact Gh (G6 _ _) 1 (.var 0) (.var 1) [Gb 1 (.var 0) (.var 1)] rfl (Nat.not_lt.mp hl))]at h;cases h
 ·rfl
theorem J5{σ:Sto}{n:Nat}{o:Ob}(h:σ[n]?=some o):n<σ.length:=(Q6 h).1
theorem Qw{σ τ:Sto}{n:Nat}{o:Ob}(h:σ[n]?=some o):(σ++τ)[n]?=some o:=by rw[List.getElem?_append_left (J5 h)];exact h
theorem G7{σ:Sto}{n:Nat}{o o':Ob}(h:σ[n]?=some o):(σ.set n o')[n]?=some o':=by rw[List.getElem?_set_self (J5 h)]
theorem Gr{σ:Sto}{n m:Nat}{o o':Ob}(h:σ[n]?=some o)(hne:m≠n):(σ.set m o')[n]?=some o:=by rw[List.getElem?_set_ne hne];exact h
theorem set_app{σ τ:Sto}{n:Nat}{o o':Ob}(h:σ[n]?=some o):(σ++τ).set n o'=σ.set n o'++τ:=List.set_append_left _ _ (J5 h)
theorem free_app{σ τ:Sto}{n:Nat}{o o':Ob}(h:σ[n]?=some o):(σ.set n o'++τ).set n o=σ++τ:=by
 rw[set_app (G7 h),List.set_set,Zn h]
theorem G1{σ:Sto}{o:Ob}:(σ++[o])[σ.length]?=some o:=List.getElem?_concat_length
theorem last2{σ τ:Sto}{o:Ob}:(σ++τ++[o])[σ.length+τ.length]?=some o:=by rw[←Q8];exact G1
theorem Yb{σ σ':Sto}{n:Nat}{o:Ob}(h:∃τ,σ'=σ++τ)(hn:σ.length≤n):∃τ,σ'.set n o=σ++τ:=z11 h fun τ e=>⟨_,e▸List.set_append_right _ _ hn⟩
theorem Qz{σ σ' τ':Sto}(h:∃τ,σ'=σ++τ):∃τ,σ'++τ'=σ++τ:=z11 h fun τ e=>⟨_,e▸Qb _ _ _⟩
theorem J7{σ σ':Sto}(h:∃τ,σ'=σ++τ):σ.length≤σ'.length:=z11 h fun τ e=>e▸Q8▸Nat.le_add_right _ _
section
variable{N k:Nat}{σ:Sto}{Φ:Calls}{n:Nat}{T:Tm}{m:Qx}
theorem glob_0:glob 0=some (Gg 0):=rfl
theorem glob_1:glob 1=some (Gg 1):=rfl
theorem eqr_ok{a b:Rat}:Gy .eq (Gg a) (Gg b) σ=some (decide (a=b)):=by
 show some (decide (a.num=b.num)&&(decide ((a.den:Int)=(b.den:Int))&&true))=_;congr 1;rw[Bool.and_true,Bool.eq_iff_iff,Qc,Q9,Q9,Q9];exact⟨fun h=>Rat.ext h.1 (Int.ofNat.inj h.2),fun h=>h▸⟨rfl,rfl⟩⟩
theorem eqr0{a:Rat}:Gy .eq (Gg a) (.tup [.int 0,.int 1]) σ=some (decide (a=0)):=eqr_ok (b:=0)
theorem isin_ok(h:σ[n]?=some (.dict (Qy T))):Gy .isin (mV m) (.loc n) σ=some (Jb T m).isSome:=by
 have e:Gy .isin (mV m) (.loc n) σ=some (Ue (Qy T) (mK m)).isSome:=by
  show memb (mV m) (.loc n) σ=_;unfold memb;dsimp only;rw[h];rfl
 rw[e,U4];cases Jb T m<;>rfl
theorem isinN(h:σ[n]?=some (.dict (Qy T)))(hg:Jb T m=none):Gy .isin (mV m) (.loc n) σ=some false:=(isin_ok h).trans (by rw[hg];rfl)
theorem isinS{x:Rat}(h:σ[n]?=some (.dict (Qy T)))(hg:Jb T m=some x):Gy .isin (mV m) (.loc n) σ=some true:=(isin_ok h).trans (by rw[hg];rfl)
theorem subd_ok(h:σ[n]?=some (.dict (Qy T))∨σ[n]?=some (.rod (Qy T))):Jg (.loc n) (mV m) σ=(Jb T m).map Gg:=by
 show((σ[n]?.bind Ob.asRows).bind fun es=>(Je [V.int (m.1:Int),V.int (m.2:Int)]).bind fun k=>Ue es k)=_;rw[←U4];rcases h with h|h<;>(rw[h];rfl)
theorem subd'{x:Rat}(h:σ[n]?=some (.dict (Qy T))∨σ[n]?=some (.rod (Qy T)))(hg:Jb T m=some x):Jg (.loc n) (mV m) σ=some (Gg x):=(subd_ok h).trans (by rw[hg];rfl)
theorem rl(hl:T.length<1000):(Qy T).length<lim:=by rw[rows_len];exact Nat.lt_trans hl (by decide)
theorem methD_s{es:List (List Int×V)}{vs k:List V}{b:Bool}{kk:List Int}{v:V}(h:σ[n]?=some (.dict es))(ha:popA vs=some (k,b))(hk:Je k=some kk)(hl:es.length<lim)(hg:Ue es kk=some v):Ji .pop (.loc n) vs σ=some (v,σ.set n (.dict (ddel es kk))):=
 bnI rfl (bnI h (bnI ha (bnI hk ((if_pos hl).trans (by rw[hg])))))
theorem methD_n{es:List (List Int×V)}{vs k:List V}{kk:List Int}(h:σ[n]?=some (.dict es))(ha:popA vs=some (k,true))(hk:Je k=some kk)(hl:es.length<lim)(hg:Ue es kk=none):Ji .pop (.loc n) vs σ=some (.none,σ):=
 bnI rfl (bnI h (bnI ha (bnI hk ((if_pos hl).trans (by rw[hg];rfl)))))
theorem popn_ok(h:σ[n]?=some (.dict (Qy T)))(hl:T.length<1000):∃v,Ji .pop (.loc n) [mV m,.none] σ=some (v,σ.set n (.dict (Qy (tdel T m)))):=by
 cases hg:Jb T m with
 |none=>exact⟨.none,by rw[tdel_none hg,Zn h];exact methD_n h rfl (keyOf_mK m) (rl hl) (by rw[U4,hg];rfl)⟩
 |some x=>exact⟨Gg x,by rw[←ddel_rows];exact methD_s h rfl (keyOf_mK m) (rl hl) (by rw[U4,hg];rfl)⟩
theorem pop1_ok{x:Rat}(h:σ[n]?=some (.dict (Qy T)))(hl:T.length<1000)(hg:Jb T m=some x):Ji .pop (.loc n) [mV m] σ=some (Gg x,σ.set n (.dict (Qy (tdel T m)))):=by
 rw[←ddel_rows];exact methD_s h rfl (keyOf_mK m) (rl hl) (by rw[U4,hg];rfl)
theorem set_ok{x:Rat}(h:σ[n]?=some (.dict (Qy T)))(hl:T.length<1000):Zm (.loc n) (mV m) (Gg x) σ=some (σ.set n (.dict (Qy (tput T m x)))):=by
 show(match σ[n]?,Je [V.int (m.1:Int),V.int (m.2:Int)]with
  |some (.dict es),some k=>if es.length<lim then some (σ.set n (.dict (dput es k (Gg x))))else none
  |_,_=>none)=_
 rw[h,←dput_rows];exact if_pos (rl hl)
theorem c_add_term{q:Rat}(hN:Big N)(hs:σ[n]?=some (.dict (Qy T)))(hl:T.length<1000)(hq:sz q)(ht:∀x,Jb T m=some x→sz x):
 G0 prog N (k+4) 17 [.loc n,mV m,Gg q] σ=some (.none,σ.set n (.dict (Qy (tadd T m q)))):=by
 unfold tadd ttot;cases hg:Jb T m with
 |none=>
  show _=some (V.none,σ.set n (.dict (Qy (if q=0 then _ else tput T m q))));by_cases h0:q=0
  ·rw[if_pos h0];exact z11 (popn_ok hs hl) fun v hv=>wF N (k+3) 17 [.loc n,mV m,Gg q] σ (isinN hs hg) rfl eqr0 (decide_eq_true h0) rfl hv
  ·rw[if_neg h0];exact wF N (k+3) 17 [.loc n,mV m,Gg q] σ (isinN hs hg) rfl eqr0 (decide_eq_false h0) (set_ok hs hl)
 |some x=>
  show _=some (V.none,σ.set n (.dict (Qy (if x+q=0 then _ else tput T m (x+q)))));have hr:=c_radd (k:=k) (σ:=σ) hN (ht x hg) hq;by_cases h0:x+q=0
  ·rw[if_pos h0];exact z11 (popn_ok hs hl) fun v hv=>wF N (k+3) 17 [.loc n,mV m,Gg q] σ (isinS hs hg) rfl (subd' (.inl hs) hg) hr eqr0 (decide_eq_true h0) rfl hv
  ·rw[if_neg h0];exact wF N (k+3) 17 [.loc n,mV m,Gg q] σ (isinS hs hg) rfl (subd' (.inl hs) hg) hr eqr0 (decide_eq_false h0) (set_ok hs hl)
end
noncomputable def Sm(T:Tm):Prop:=∀x∈T,x.1.1<6∧x.1.2<6
theorem small_rows{T:Tm}(h:Sm T):((Qy T).all fun e=>Jj.contains e.1)=true:=by
 rw[List.all_eq_true];intro e he;obtain⟨x,hx,rfl⟩:=Qg he;rw[List.contains_iff_mem];simp only[Jj,List.mem_flatMap,List.mem_map,List.mem_range];exact⟨x.1.1,(h x hx).1,x.1.2,(h x hx).2,rfl⟩
section
variable{N k:Nat}{σ:Sto}{Φ:Calls}{n na nb:Nat}{T A B:Tm}{m:Qx}
theorem dict_ok(h:σ[n]?=some (.dict (Qy T)))(ok:Ok T):Jd .dict [.loc n] σ=some (.loc σ.length,σ++[.dict (Qy T)]):=
 show(σ[n]?.bind fun o=>mkDict o σ)=_ from bnI h (if_pos ⟨rl (Nat.lt_of_le_of_lt ok.len (by decide)),small_rows ok.small⟩)
theorem src_ok(h:σ[n]?=some (.dict (Qy T))):Gx .plain (.loc n) σ=some (⟨T.map fun x=>mV x.1,some (n,.rod (Qy T)),some (n,.dict (Qy T))⟩,σ.set n (.rod (Qy T))):=by
 unfold Gx;dsimp only;rw[h,←rows_keys]
theorem sok{items:List V}{b:Option (Nat×Ob)}(h:σ[n]?=some (.rod (Qy T))):(Src.mk items (some (n,.rod (Qy T))) b).ok σ=true:=by
 unfold Src.ok;dsimp only;rw[h];exact(beqOb_iff _ _).mpr rfl
noncomputable def sD(n:Nat)(T:Tm):Src:=⟨T.map fun x=>mV x.1,some (n,.rod (Qy T)),some (n,.dict (Qy T))⟩
theorem sD_ok{τ:Sto}(h:σ[n]?=some (.dict (Qy T))):(sD n T).ok (σ.set n (.rod (Qy T))++τ)=true:=sok (Qw (G7 h))
theorem sD_free{τ:Sto}(h:σ[n]?=some (.dict (Qy T))):(sD n T).free (σ.set n (.rod (Qy T))++τ)=σ++τ:=free_app h
theorem sD_src(h:σ[n]?=some (.dict (Qy T))):Gx .plain (.loc n) σ=some (sD n T,σ.set n (.rod (Qy T))):=src_ok h
theorem mvadd_loop(hN:Big N)(hB:σ[nb]?=some (.dict (Qy B)))(szB:Sz B):∀(R:Tm) (acc:Tm),(∀x∈R,x∈B)→(keys B).Nodup→(keys R).Nodup→Sm R→Ok acc→(∀x∈R,∀y,Jb acc x.1=some y→sz y)→
 RF (G0 prog N (k+4)) N (sD nb B) (.one 1) (bo 16 [1]) (R.map fun x=>mV x.1) [(7,.loc σ.length),(4,.loc nb)] (σ.set nb (.rod (Qy B))++[.dict (Qy acc)]) .next [(7,.loc σ.length),(4,.loc nb)] (σ++[.dict (Qy (tsum acc R))])
 |[],acc,_,_,_,_,_,_=>RF.nil (sD_ok hB) (sD_free hB)
 |x::R,acc,hsub,hnB,hn,hsm,ok,hsz=>by
  have hl:(σ.set nb (.rod (Qy B))).length=σ.length:=List.length_set;have hget:(σ.set nb (.rod (Qy B))++[Ob.dict (Qy acc)])[σ.length]?=some (.dict (Qy acc)):=by
   rw[←hl,List.getElem?_concat_length]
  have hcall:=c_add_term (k:=k) (m:=x.1) (q:=x.2) hN hget (Nat.lt_of_le_of_lt ok.len (by decide)) (szB x (hsub x (.head _))) (hsz x (.head _));have hset:(σ.set nb (.rod (Qy B))++[Ob.dict (Qy acc)]).set σ.length (.dict (Qy (tadd acc x.1 x.2)))=σ.set nb (.rod (Qy B))++[.dict (Qy (tadd acc x.1 x.2))]:=by
   rw[List.set_append_right _ _ (Nat.le_of_eq hl),hl,Nat.sub_self];rfl
  rw[hset]at hcall;have hnk:x.1∉keys R∧(keys R).Nodup:=List.nodup_cons.mp hn;exact RF.cons (sD_ok hB) rfl (wB _ N (bo 16 [1]) [(7,.loc σ.length),(4,.loc nb),(1,mV x.1)] _ (subd' (.inr (Qw (G7 hB))) (Y5 hnB (hsub x (.head _)))) hcall) trivial [7,4]
   (mvadd_loop hN hB szB R (tadd acc x.1 x.2) (fun y hy=>hsub y (.tail _ hy)) hnB hnk.2 (fun y hy=>hsm y (.tail _ hy)) (ok.tadd (hsm x (.head _)))
    (fun y hy z hz=>hsz y (.tail _ hy) z (by rwa[tget_tadd ok.nodup (fun e:y.1=x.1=>hnk.1 (e▸Qj hy))]at hz)))
theorem c_mvadd(hN:Big N)(hA:σ[na]?=some (.dict (Qy A)))(hB:σ[nb]?=some (.dict (Qy B)))(okA:Ok A)(okB:Ok B)(szA:Sz A)(szB:Sz B):
 G0 prog N (k+5) 16 [.loc na,.loc nb] σ=some (.loc σ.length,σ++[.dict (Qy (tsum A B))]):=by
 have hs:=sD_src (σ:=σ++[.dict (Qy A)]) (Qw hB);rw[set_app hB]at hs;exact wF N (k+4) 16 [.loc na,.loc nb] σ (dict_ok hA okA) (RF.for (wE _ (.var 4) [(3,.loc na),(4,.loc nb),(7,.loc σ.length)] _) hs [7,4] (mvadd_loop hN hB szB B A (fun x hx=>hx) okB.nodup okB.nodup okB.small okA (fun x hx y hy=>szA _ (Us hy))))
theorem tsum_co:∀{R acc:Tm},Ok acc→Sm R→(keys R).Nodup→∀n,co (tsum acc R) n=co acc n+co R n
 |[],acc,ok,_,_,n=>by simp[tsum,co,Jb];grind
 |x::R,acc,ok,hs,hn,n=>by
  have hnk:x.1∉keys R∧(keys R).Nodup:=by simpa[keys]using hn
  show co (tsum (tadd acc x.1 x.2) R) n=_;rw[tsum_co (ok.tadd (hs x (.head _))) (fun y hy=>hs y (.tail _ hy)) hnk.2,co_tadd ok.nodup];have:co (x::R) n=(if n=x.1 then x.2 else 0)+co R n:=by
   obtain⟨a,b⟩:=x;unfold co;simp only[Jb];by_cases h:a=n
   ·subst h;rw[if_pos rfl,if_pos rfl,Ja.mpr hnk.1];simp;grind
   ·rw[if_neg h,if_neg (Ne.symm h)];grind
  rw[this];grind
theorem tsum_ok:∀{R acc:Tm},Ok acc→Sm R→Ok (tsum acc R)
 |[],acc,ok,_=>ok
 |x::R,acc,ok,hs=>tsum_ok (R:=R) (acc:=tadd acc x.1 x.2) (ok.tadd (hs x (.head _))) fun y hy=>hs y (.tail _ hy)
end
theorem tput_new:∀{T:Tm} {m:Qx} {q:Rat},m∉keys T→tput T m q=T++[(m,q)]
 |[],_,_,_=>rfl
 |(k,v)::r,m,q,h=>by
  simp only[keys,Q7,List.mem_cons,not_or]at h;simp only[tput,if_neg (Ne.symm h.1),tput_new (T:=r) h.2,List.cons_append]
section
variable{N k:Nat}{σ:Sto}{Φ:Calls}{n na nb:Nat}{T A B:Tm}{m:Qx}
theorem dloop{H:Fr→Prop}{turn:Fr→V→List (List Int×V)→Sto→Option (List (List Int×V)×Sto)}{f:Qx×Rat→Qx×Rat}(hA:σ[na]?=some (.dict (Qy A)))
 (hturn:∀x∈A,∀acc τ,acc.length<36→∃τ',∀ρ,H ρ→turn ρ (mV x.1) acc (σ.set na (.rod (Qy A))++τ)=some (dput acc (mK (f x).1) (Gg (f x).2),σ.set na (.rod (Qy A))++τ')) (hn:(keys (A.map f)).Nodup) (hl:A.length≤36):
 ∀(R P:Tm) (τ:Sto),A=P++R→∃τ',∀ρ,H ρ→J3 (sD na A) (turn ρ) (R.map fun x=>mV x.1) (Qy (P.map f)) (σ.set na (.rod (Qy A))++τ)=some (Qy (A.map f),σ++τ')
 |[],P,τ,e=>by
  rw[Qp]at e;exact⟨τ,fun ρ _=>Ug (sD_ok hA) (sD_free hA) |>.trans (by rw[e])⟩
 |x::R,P,τ,e=>by
  have hx:x∈A:=by rw[e];exact List.mem_append_right _ (.head _)
  have hP:(Qy (P.map f)).length<36:=by
   rw[rows_len,Qi];rw[e,Q8]at hl;exact Nat.lt_of_lt_of_le (Nat.lt_add_of_pos_right (Nat.succ_pos _)) hl
  have hk:(f x).1∉keys (P.map f):=by
   rw[e]at hn;unfold keys at hn;rw[Qr,Qr,List.nodup_append]at hn;exact fun hm=>hn.2.2 _ hm _ (.head _) rfl
  refine z11 (hturn x hx (Qy (P.map f)) τ hP) fun τ' h=>?_;refine z11 (dloop hA hturn hn hl R (P++[x]) τ' (by rw[e,Qb];rfl)) fun τ'' h2=>⟨τ'',fun ρ Hr=>Js (sD_ok hA) (h ρ Hr) ?_⟩
  rw[dput_rows,tput_new hk];have:=h2 ρ Hr;rw[Qr]at this;exact this
theorem dloop0{H:Fr→Prop}{turn:Fr→V→List (List Int×V)→Sto→Option (List (List Int×V)×Sto)}{f:Qx×Rat→Qx×Rat}(hA:σ[na]?=some (.dict (Qy A)))
 (hturn:∀x∈A,∀acc τ,acc.length<36→∃τ',∀ρ,H ρ→turn ρ (mV x.1) acc (σ.set na (.rod (Qy A))++τ)=some (dput acc (mK (f x).1) (Gg (f x).2),σ.set na (.rod (Qy A))++τ')) (hn:(keys (A.map f)).Nodup) (hl:A.length≤36):
 ∃τ',∀ρ,H ρ→J3 (sD na A) (turn ρ) (A.map fun x=>mV x.1) [] (σ.set na (.rod (Qy A)))=some (Qy (A.map f),σ++τ'):=by
 have:=dloop hA hturn hn hl A [] [] rfl;rwa[Qp]at this
theorem l36{n:Nat}(h:n<36):n<lim:=Nat.lt_trans h (by decide)
theorem keys_map1{g:Qx×Rat→Rat}:keys (A.map fun x=>(x.1,g x))=keys A:=List.map_map
theorem nd_map1{g:Qx×Rat→Rat}(h:(keys A).Nodup):(keys (A.map fun x=>(x.1,g x))).Nodup:=keys_map1.symm▸h
noncomputable def tneg(A:Tm):Tm:=A.map fun x=>(x.1,-x.2)
noncomputable def Gv(A:Tm)(q:Rat):Tm:=if q=0 then[]else A.map fun x=>(x.1,x.2*q)
noncomputable def Gw(A:Tm)(s:Qx)(q:Rat):Tm:=if q=0 then[]else A.map fun x=>(Gq x.1 s,x.2*q)
theorem c_mvneg(hA:σ[na]?=some (.dict (Qy A)))(okA:Ok A):∃τ,G0 prog N (k+2) 18 [.loc na] σ=some (.loc (σ.length+τ.length),σ++τ++[.dict (Qy (tneg A))]):=by
 refine z11 (dloop0 (H:=fun ρ=>Has ρ [(3,.loc na)]) (f:=fun x=>(x.1,-x.2)) hA (fun x hx acc τ hl=>⟨τ,RE.dT (n:=1) (wE (G0 prog N (k+1)) (.var 1) [(3,.loc na),(1,mV x.1)] _) (wE _ (.call 13 (.cons (.sub (.var 3) (.var 1)) .nil)) [(3,.loc na),(1,mV x.1)] _ (subd' (.inr (Qw (G7 hA))) (Y5 okA.nodup hx)) (c_rneg _)) (keyOf_mK _) (l36 hl)⟩) (nd_map1 okA.nodup) okA.len) fun τ h=>⟨τ,?_⟩
 rw[←Q8];exact wF N (k+1) 18 [.loc na] σ (RE.dc (wE _ (.var 3) [(3,.loc na)] σ) (sD_src hA) h)
theorem c_mvscale{q:Rat}(hN:Big N)(hA:σ[na]?=some (.dict (Qy A)))(okA:Ok A)(szA:Sz A)(hq:sz q):∃τ,G0 prog N (k+4) 20 [.loc na,Gg q] σ=some (.loc (σ.length+τ.length),σ++τ++[.dict (Qy (Gv A q))]):=by
 unfold Gv;by_cases h0:q=0
 ·refine⟨[],?_⟩;rw[if_pos h0,Qp];exact wF N (k+3) 20 [.loc na,Gg q] σ eqr0 (decide_eq_true h0)
 rw[if_neg h0];refine z11 (dloop0 (H:=fun ρ=>Has ρ [(3,.loc na),(14,Gg q)]) (f:=fun x=>(x.1,x.2*q)) hA (fun x hx acc τ hl=>⟨τ,RE.dT (n:=1) (wE (G0 prog N (k+3)) (.var 1) [(3,.loc na),(14,Gg q),(1,mV x.1)] _) (wE _ (.call 11 (.cons (.sub (.var 3) (.var 1)) (.cons (.var 14) .nil))) [(3,.loc na),(14,Gg q),(1,mV x.1)] _ (subd' (.inr (Qw (G7 hA))) (Y5 okA.nodup hx)) (c_rmul hN (szA x hx) hq)) (keyOf_mK _) (l36 hl)⟩) (nd_map1 okA.nodup) okA.len) fun τ h=>⟨τ,?_⟩
 rw[←Q8];exact wF N (k+3) 20 [.loc na,Gg q] σ eqr0 (decide_eq_false h0) (RE.dc (wE _ (.var 3) [(3,.loc na),(14,Gg q)] σ) (sD_src hA) h)
theorem madd_inj{a b s:Qx}(e:Gq a s=Gq b s):a=b:=Prod.ext (Nat.add_right_cancel (congrArg Prod.fst e)) (Nat.add_right_cancel (congrArg Prod.snd e))
theorem c_mvshift{q:Rat}{s:Qx}(hN:Big N)(hA:σ[na]?=some (.dict (Qy A)))(okA:Ok A)(szA:Sz A)(hq:sz q):∃τ,G0 prog N (k+4) 21 [.loc na,mV s,Gg q] σ=some (.loc (σ.length+τ.length),σ++τ++[.dict (Qy (Gw A s q))]):=by
 unfold Gw;by_cases h0:q=0
 ·refine⟨[],?_⟩;rw[if_pos h0,Qp];exact wF N (k+3) 21 [.loc na,mV s,Gg q] σ eqr0 (decide_eq_true h0)
 rw[if_neg h0];refine z11 (dloop0 (H:=fun ρ=>Has ρ [(3,.loc na),(1,mV s),(14,Gg q)]) (f:=fun x=>(Gq x.1 s,x.2*q)) hA (fun x hx acc τ hl=>by
  refine z11 (c_product (N:=N) (k:=k+2) (σ:=σ.set na (.rod (Qy A))++τ) x.1 s) fun τ1 hp=>⟨τ++τ1,?_⟩
  rw[Qb]at hp;exact RE.dT (n:=2) (wE (G0 prog N (k+3)) (.call 1 (.cons (.var 2) (.cons (.var 1) .nil))) [(3,.loc na),(1,mV s),(14,Gg q),(2,mV x.1)] _ hp) (wE _ (.call 11 (.cons (.sub (.var 3) (.var 2)) (.cons (.var 14) .nil))) [(3,.loc na),(1,mV s),(14,Gg q),(2,mV x.1)] _ (subd' (.inr (Qw (G7 hA))) (Y5 okA.nodup hx)) (c_rmul hN (szA x hx) hq)) (keyOf_mK _) (l36 hl)) (by
  have e:keys (A.map fun x:Qx×Rat=>(Gq x.1 s,x.2*q))=(keys A).map fun m=>Gq m s:=by unfold keys;rw[List.map_map,List.map_map];rfl
  rw[e];exact List.pairwise_map.mpr (okA.nodup.imp fun h e=>h (madd_inj e))) okA.len) fun τ h=>⟨τ,?_⟩
 rw[←Q8];exact wF N (k+3) 21 [.loc na,mV s,Gg q] σ eqr0 (decide_eq_false h0) (RE.dc (wE _ (.var 3) [(3,.loc na),(1,mV s),(14,Gg q)] σ) (sD_src hA) h)
end
noncomputable def ky(o:Nat)(a:Qx):Qx:=if o=0 then a else(a.1+a.2,a.1)
noncomputable def lx(p q:Qx):Bool:=decide (p.1<q.1)||(decide (p.1=q.1)&&decide (p.2<q.2))
noncomputable def mlt(o:Nat)(a b:Qx):Bool:=lx (ky o a) (ky o b)
theorem lx_iff{p q:Qx}:lx p q=true↔p.1<q.1∨(p.1=q.1∧p.2<q.2):=by
 unfold lx;rw[Bool.or_eq_true,Qc,Q9,Q9,Q9]
theorem mlt_eq{o:Nat}{a b:Qx}:mlt o a b=if o=0 then decide (a.1<b.1∨(a.1=b.1∧a.2<b.2))else decide (a.1+a.2<b.1+b.2∨(a.1+a.2=b.1+b.2∧a.1<b.1)):=by
 rw[Bool.eq_iff_iff];unfold mlt;rw[lx_iff];unfold ky;by_cases h:o=0
 ·rw[if_pos h,if_pos h,if_pos h,Q9]
 ·rw[if_neg h,if_neg h,if_neg h,Q9]
theorem ky_inj{o:Nat}{a b:Qx}(h:ky o a=ky o b):a=b:=by
 unfold ky at h;by_cases h0:o=0
 ·rwa[if_pos h0,if_pos h0]at h
 ·rw[if_neg h0,if_neg h0]at h;have h1:a.1=b.1:=congrArg Prod.snd h;have h2:a.1+a.2=b.1+b.2:=congrArg Prod.fst h;rw[h1]at h2;exact Prod.ext h1 (Nat.add_left_cancel h2)
noncomputable def lexB(o:Bool):List Int→List Int→Bool
 |x::xs,y::ys=>if x=y then lexB o xs ys else cond o (decide (y<x)) (decide (x<y))
 |_,_=>false
theorem lexB_sym:∀{l l':List Int},lexB false l l'=lexB true l' l
 |[],[]|[],_::_|_::_,[]=>rfl
 |x::xs,y::ys=>by
  show(if x=y then lexB false xs ys else decide (x<y))=(if y=x then lexB true ys xs else decide (x<y));rw[lexB_sym (l:=xs)];by_cases h:x=y
  ·rw[if_pos h,if_pos h.symm]
  ·rw[if_neg h,if_neg (Ne.symm h)]
section
variable{N k:Nat}{σ:Sto}{Φ:Calls}{n na nb:Nat}{T A B:Tm}{m:Qx}{o:Nat}
theorem lexB_ok{o:Bool}{d:Nat}:∀{l l':List Int},l.length=l'.length→ltList o (eqD (d+1) σ) (ltD o (d+1) σ) (l.map V.int) (l'.map V.int)=some (lexB o l l')
 |[],[],_=>rfl
 |x::xs,y::ys,h=>by
  show(cond (decide (x=y)) (ltList o (eqD (d+1) σ) (ltD o (d+1) σ) (xs.map V.int) (ys.map V.int)) (some (if o=true then decide (y<x)else decide (x<y))))=some (if x=y then lexB o xs ys else cond o (decide (y<x)) (decide (x<y)));by_cases e:x=y
  ·rw[decide_eq_true e,if_pos e];exact lexB_ok (Nat.succ.inj h)
  ·rw[decide_eq_false e,if_neg e];cases o<;>rfl
theorem lex1{x y:Nat}{t:Bool}:(if(x:Int)=y then t else decide ((y:Int)<x))=(decide (y<x)||(decide (y=x)&&t)):=by
 by_cases h:x=y
 ·rw[if_pos (congrArg _ h),decide_eq_false (h▸Nat.lt_irrefl x),decide_eq_true h.symm];rfl
 ·rw[if_neg (fun e:(x:Int)=y=>h (Int.ofNat.inj e)),decide_eq_false (Ne.symm h),decide_eq_decide.mpr Int.ofNat_lt];exact(Bool.or_false _).symm
theorem okI_len{o:Nat}(ho:o<3)(a b:Qx):(okI o a).length=(okI o b).length:=by
 match o,ho with
 |0,_|1,_|2,_=>rfl
theorem lexB_mlt(ho:o<3)(a b:Qx):lexB true (okI o a) (okI o b)=mlt o b a:=by
 match o,ho with
 |0,_=>exact lex1.trans (congrArg _ (congrArg _ (lex1.trans (show(decide (b.2<a.2)||(decide (b.2=a.2)&&false))=decide (b.2<a.2) by rw[Bool.and_false,Bool.or_false]))))
 |1,_=>
  refine lex1.trans (congrArg _ ?_);show(decide (b.1+b.2=a.1+a.2)&&lexB true [(a.1:Int),(a.2:Int)] [(b.1:Int),(b.2:Int)])=(decide (b.1+b.2=a.1+a.2)&&decide (b.1<a.1));by_cases h:b.1+b.2=a.1+a.2
  ·rw[decide_eq_true h,Bool.true_and,Bool.true_and];refine lex1.trans ?_;by_cases h1:b.1=a.1
   ·rw[h1]at h;have h2:=Nat.add_left_cancel h;rw[h1,decide_eq_true rfl,h2,Bool.true_and];show(_||if(a.2:Int)=a.2 then false else _)=_;rw[if_pos rfl,Bool.or_false]
   ·rw[decide_eq_false h1,Bool.false_and,Bool.or_false]
  ·rw[decide_eq_false h,Bool.false_and,Bool.false_and]
 |2,_=>
  refine lex1.trans (congrArg _ ?_);show(decide (b.1+b.2=a.1+a.2)&&lexB true [-(a.2:Int),-(a.1:Int)] [-(b.2:Int),-(b.1:Int)])=(decide (b.1+b.2=a.1+a.2)&&decide (b.1<a.1));by_cases h:b.1+b.2=a.1+a.2
  ·rw[decide_eq_true h,Bool.true_and,Bool.true_and];show(if-(a.2:Int)= -(b.2:Int)then(if-(a.1:Int)= -(b.1:Int)then false else _)else decide (-(b.2:Int)< -(a.2:Int)))=decide (b.1<a.1);by_cases h1:b.2=a.2
   ·rw[h1]at h;have h2:=Nat.add_right_cancel h;rw[h1,h2,if_pos rfl,if_pos rfl,decide_eq_false (Nat.lt_irrefl _)]
   ·rw[if_neg (fun e: -(a.2:Int)= -(b.2:Int)=>h1 (Int.ofNat.inj (Int.neg_inj.mp e)).symm)];refine decide_eq_decide.mpr (Int.neg_lt_neg_iff.trans (Int.ofNat_lt.trans ?_));exact⟨fun h2=>Nat.lt_of_not_le fun h3=>Nat.lt_irrefl _ (h▸Nat.add_lt_add_of_le_of_lt h3 h2),fun h2=>Nat.lt_of_not_le fun h3=>Nat.lt_irrefl _ (h▸Nat.add_lt_add_of_lt_of_le h2 h3)⟩
  ·rw[decide_eq_false h,Bool.false_and,Bool.false_and]
theorem gtk_ok(ho:o<3)(a b:Qx):Gy .gt (okV o a) (okV o b) σ=some (mlt o b a):=
 (lexB_ok (d:=6) (okI_len ho a b)).trans (by rw[lexB_mlt ho])
noncomputable def bV:Option Qx→V
 |none=>.none
 |some m=>mV m
noncomputable def bK(o:Nat):Option Qx→V
 |none=>.none
 |some m=>okV o m
noncomputable def lstep(o:Nat)(b:Option Qx)(x:Qx×Rat):Option Qx:=match b with
 |none=>some x.1
 |some m=>if mlt o m x.1=true then some x.1 else some m
noncomputable def Jk(o:Nat)(A:Tm):Option Qx:=A.foldl (lstep o) none
theorem is_n:Gy .is .none .none σ=some true:=rfl
theorem is_m:Gy .is (mV m) .none σ=some false:=rfl
noncomputable def lF(na o:Nat)(b:Option Qx):AL:=[(3,.loc na),(0,.str o),(16,bV b),(18,bK o b)]
theorem lead_loop(ho:o<3)(hA:σ[na]?=some (.dict (Qy A))):∀(R:Tm) (b:Option Qx) (τ:Sto),∃τ',RF (G0 prog N (k+1)) N (sD na A) (.one 1) (bo 22 [1]) (R.map fun x=>mV x.1) (lF na o b) (σ.set na (.rod (Qy A))++τ) .next (lF na o (R.foldl (lstep o) b)) (σ++τ')
 |[],b,τ=>⟨τ,RF.nil (sD_ok hA) (sD_free hA)⟩
 |x::R,b,τ=>by
  refine z11 (c_order_key (N:=N) (k:=k) (σ:=σ.set na (.rod (Qy A))++τ) ho x.1) fun τ1 hk=>?_;rw[Qb]at hk;refine z11 (lead_loop ho hA R (lstep o b x) (τ++τ1)) fun τ' ih=>⟨τ',?_⟩
  rw[List.foldl_cons];generalize e:lstep o b x=b' at ih⊢;cases b with
  |none=>
   subst e;exact RF.cons (sD_ok hA) rfl (wB _ N (bo 22 [1]) [(3,.loc na),(0,.str o),(16,.none),(18,.none),(1,mV x.1)] _ hk is_n rfl rfl) trivial [3,0,16,18] ih
  |some m=>
   have w:=fun(r:Bool) (h:mlt o m x.1=r)=>wB _ N (bo 22 [1]) [(3,.loc na),(0,.str o),(16,mV m),(18,okV o m),(1,mV x.1)] _ hk is_m rfl (gtk_ok ho x.1 m) h;cases hm:mlt o m x.1 with
   |true=>
    subst e;rw[show lstep o (some m) x=some x.1 from if_pos hm]at ih⊢;exact RF.cons (sD_ok hA) rfl (w true hm) trivial [3,0,16,18] ih
   |false=>
    subst e;rw[show lstep o (some m) x=some m from if_neg (by rw[hm];exact Bool.false_ne_true)]at ih⊢;exact RF.cons (sD_ok hA) rfl (w false hm) trivial [3,0,16,18] ih
end
theorem Yl{o:Nat}{a:Qx}:mlt o a a=false:=by
 unfold mlt lx;rw[decide_eq_false (Nat.lt_irrefl _),decide_eq_false (Nat.lt_irrefl _),Bool.and_false];rfl
theorem lx_trans{a b c:Qx}(h1:lx a b=true)(h2:lx b c=true):lx a c=true:=by
 rw[lx_iff]at h1 h2⊢;rcases h1 with h1|⟨e1,h1⟩
 ·rcases h2 with h2|⟨e2,h2⟩
  ·exact .inl (Nat.lt_trans h1 h2)
  ·exact .inl (e2▸h1)
 ·rcases h2 with h2|⟨e2,h2⟩
  ·exact .inl (e1▸h2)
  ·exact .inr ⟨e1.trans e2,Nat.lt_trans h1 h2⟩
theorem Jy{o:Nat}{a b c:Qx}(h1:mlt o a b=true)(h2:mlt o b c=true):mlt o a c=true:=lx_trans h1 h2
theorem lx_tot(a b:Qx):lx a b=true∨a=b∨lx b a=true:=by
 rw[lx_iff,lx_iff];rcases Nat.lt_trichotomy a.1 b.1 with h|h|h
 ·exact .inl (.inl h)
 ·rcases Nat.lt_trichotomy a.2 b.2 with h2|h2|h2
  ·exact .inl (.inr ⟨h,h2⟩)
  ·exact .inr (.inl (Prod.ext h h2))
  ·exact .inr (.inr (.inr ⟨h.symm,h2⟩))
 ·exact .inr (.inr (.inl h))
theorem mlt_tot{o:Nat}(a b:Qx):mlt o a b=true∨a=b∨mlt o b a=true:=(lx_tot (ky o a) (ky o b)).imp id (Or.imp ky_inj id)
theorem lx_add{a b:Qx}(c:Qx):lx (Gq a c) (Gq b c)=lx a b:=by
 unfold lx Gq;dsimp only;rw[decide_eq_decide.mpr Nat.add_lt_add_iff_right,decide_eq_decide.mpr Nat.add_lt_add_iff_right,decide_eq_decide.mpr Nat.add_right_cancel_iff]
theorem mlt_add{o:Nat}{a b:Qx}(c:Qx):mlt o (Gq a c) (Gq b c)=mlt o a b:=by
 have h:∀x:Qx,ky o (Gq x c)=Gq (ky o x) (ky o c):=fun x=>by
  unfold ky;by_cases h0:o=0
  ·rw[if_pos h0,if_pos h0,if_pos h0]
  ·rw[if_neg h0,if_neg h0,if_neg h0];exact Prod.ext (Nat.add_add_add_comm _ _ _ _) rfl
 unfold mlt;rw[h,h,lx_add]
theorem Zq{o:Nat}{a b:Qx}(h:mlt o a b=true):mlt o b a=false:=by
 cases h2:mlt o b a with
 |false=>rfl
 |true=>have:=Jy h h2;rw[Yl]at this;cases this
noncomputable def IsTop(o:Nat)(m:Qx)(L:List Qx):Prop:=m∈L∧∀n∈L,n=m∨mlt o n m=true
theorem lead_fold{o:Nat}:∀(R:Tm) (b:Option Qx) (L:List Qx),(match b with|none=>L=[]|some m=>IsTop o m L)→(match R.foldl (lstep o) b with|none=>L++keys R=[]|some m=>IsTop o m (L++keys R))
 |[],b,L,h=>by simpa[keys]using h
 |x::R,b,L,h=>by
  have:=lead_fold R (lstep o b x) (L++[x.1]) (by
   cases b with
   |none=>
    dsimp only at h;subst h;simp only[lstep,IsTop,List.nil_append,List.mem_singleton];exact⟨trivial,fun n hn=>.inl hn⟩
   |some m=>
    dsimp only at h;simp only[lstep];cases hm:mlt o m x.1 with
    |true=>
     refine⟨by simp,fun n hn=>?_⟩;rcases Qh hn with hn|hn
     ·rcases h.2 n hn with rfl|h2
      ·exact .inr hm
      ·exact .inr (Jy h2 hm)
     ·exact .inl (Q2 hn)
    |false=>
     refine⟨List.mem_append_left _ h.1,fun n hn=>?_⟩;rcases Qh hn with hn|hn
     ·exact h.2 n hn
     ·rw[Q2 hn];rcases mlt_tot (o:=o) m x.1 with h1|h1|h1
      ·rw[hm]at h1;cases h1
      ·exact .inl h1.symm
      ·exact .inr h1)
  simpa[keys]using this
theorem tlead_none{o:Nat}{A:Tm}(h:Jk o A=none):A=[]:=by
 have:=lead_fold (o:=o) A none [] rfl;unfold Jk at h;rw[h]at this;simpa[keys]using this
theorem Go{o:Nat}{A:Tm}{m:Qx}(h:Jk o A=some m):IsTop o m (keys A):=by
 have:=lead_fold (o:=o) A none [] rfl;unfold Jk at h;rw[h]at this;simpa using this
theorem co_mem{A:Tm}{m:Qx}(h:m∈keys A):Jb A m=some (co A m):=by
 unfold co;cases hg:Jb A m with
 |none=>exact absurd h (Ja.mp hg)
 |some x=>rfl
section
variable{N k:Nat}{σ:Sto}{Φ:Calls}{n na nb:Nat}{T A B:Tm}{m:Qx}{o:Nat}
theorem c_lead(ho:o<3)(hA:σ[na]?=some (.dict (Qy A)))(hl:Jk o A=some m):∃τ,G0 prog N (k+2) 22 [.loc na,.str o] σ=some (.tup [mV m,Gg (co A m)],σ++τ):=by
 refine z11 (lead_loop (N:=N) (k:=k) (σ:=σ) ho hA A none []) fun τ' e=>⟨τ',?_⟩
 rw[Qp,show A.foldl (lstep o) none=some m from hl]at e;exact wF N (k+1) 22 [.loc na,.str o] σ (RF.for (wE _ (.var 3) [(3,.loc na),(0,.str o),(16,.none),(18,.none)] σ) (sD_src hA) [3,0,16,18] e) is_m rfl (subd' (.inl (Qw hA)) (co_mem (Go hl).1))
theorem sz_neg{q:Rat}(h:sz q):sz (-q):=by
 unfold sz;rw[Rat.neg_num,Rat.neg_den,Int.natAbs_neg];exact h
theorem Sz.neg(h:Sz B):Sz (tneg B):=fun x hx=>z12 (Qg hx) fun y hy e=>e▸sz_neg (h y hy)
theorem Ok.neg(h:Ok B):Ok (tneg B):=
 ⟨nd_map1 h.nodup,fun x hx=>z12 (Qg hx) fun y hy e=>e▸h.small y hy,fun x hx=>z12 (Qg hx) fun y hy e=>e▸fun h0=>h.nz y hy (by have:=Rat.neg_neg y.2;rw[show-y.2=0 from h0]at this;exact this.symm)⟩
theorem c_mvsub(hN:Big N)(hA:σ[na]?=some (.dict (Qy A)))(hB:σ[nb]?=some (.dict (Qy B)))(okA:Ok A)(okB:Ok B)(szA:Sz A)(szB:Sz B):
 ∃τ n',G0 prog N (k+6) 19 [.loc na,.loc nb] σ=some (.loc n',σ++τ)∧(σ++τ)[n']?=some (.dict (Qy (tsum A (tneg B))))∧σ.length≤n':=by
 refine z11 (c_mvneg (N:=N) (k:=k+3) hB okB) fun τ h=>?_;have h2:=c_mvadd (N:=N) (k:=k) (σ:=σ++τ++[.dict (Qy (tneg B))]) hN (Qw (Qw hA)) last2 okA okB.neg szA szB.neg;refine z11 (Qz (τ':=[Ob.dict (Qy (tsum A (tneg B)))]) (Qz (τ':=[Ob.dict (Qy (tneg B))]) ⟨τ,rfl⟩)) fun t ht=>⟨t,_,ht▸wF N (k+5) 19 [.loc na,.loc nb] σ h h2,ht▸G1,J7 (Qz ⟨τ,rfl⟩)⟩
theorem c_monic(hN:Big N)(ho:o<3)(hA:σ[na]?=some (.dict (Qy A)))(okA:Ok A)(szA:Sz A)(hl:Jk o A=some m)(hi:sz (co A m)⁻¹):
 ∃τ n',G0 prog N (k+5) 23 [.loc na,.str o] σ=some (.loc n',σ++τ)∧(σ++τ)[n']?=some (.dict (Qy (Gv A (co A m)⁻¹)))∧σ.length≤n':=by
 refine z11 (c_lead (N:=N) (k:=k+2) ho hA hl) fun τ h=>?_;have hmem:=Us (co_mem (Go hl).1);refine z11 (c_mvscale (N:=N) (k:=k) (σ:=σ++τ) hN (Qw hA) okA szA hi) fun τ2 h2=>?_;refine z11 (Qz (τ':=[Ob.dict (Qy (Gv A (co A m)⁻¹))]) (Qz (τ':=τ2) ⟨τ,rfl⟩)) fun t ht=>⟨t,_,ht▸wF N (k+4) 23 [.loc na,.str o] σ h rfl rfl rfl (c_rinv (k:=k+1) hN (szA _ hmem) (okA.nz _ hmem)) h2,ht▸last2,Nat.le_trans (J7 ⟨τ,rfl⟩) (Nat.le_add_right _ _)⟩
end
noncomputable def fdv:Nat→List Qx→Qx→Option Nat
 |_,[],_=>none
 |i,l::r,p=>if Gf l p=true then some i else fdv (i+1) r p
noncomputable def fdI(L:List Qx)(p:Qx):Int:=match fdv 0 L p with
 |some i=>(i:Int)
 |none=> -1
section
variable{N k:Nat}{σ:Sto}{Φ:Calls}{n na nb nl:Nat}{T A B:Tm}{m p:Qx}{o:Nat}
theorem Jn{items xs:List V}{b:Option (Nat×Ob)}(h:σ[n]?=some (.ro xs)):(Src.mk items (some (n,.ro xs)) b).ok σ=true:=by
 unfold Src.ok;dsimp only;rw[h];exact(beqOb_iff _ _).mpr rfl
theorem free_ro{τ:Sto}{items xs:List V}{g:Option (Nat×Ob)}(h:σ[n]?=some (.list xs)):(Src.mk items g (some (n,.list xs))).free (σ.set n (.ro xs)++τ)=σ++τ:=free_app h
noncomputable def sL(n:Nat)(xs:List V):Src:=⟨xs,some (n,.ro xs),some (n,.list xs)⟩
noncomputable def sE(n:Nat)(xs:List V):Src:=⟨Uj 0 xs,some (n,.ro xs),some (n,.list xs)⟩
theorem aloop{α:Type}{H:Fr→Prop}{σ₁:Sto}{src:Src}{turn:Fr→V→List V→Sto→Option (List V×Sto)}{iv:α→V}{g:α→List V}(hok:∀τ,src.ok (σ₁++τ)=true)(hfree:∀τ,src.free (σ₁++τ)=σ++τ):
 ∀(items:List α) (acc:List V) (τ:Sto),(∀x∈items,∀acc τ,acc.length<1000→∃τ',∀ρ,H ρ→turn ρ (iv x) acc (σ₁++τ)=some (acc++g x,σ₁++τ'))→(∀x∈items,(g x).length≤1)→acc.length+items.length≤1000→
 ∃τ',∀ρ,H ρ→J3 src (turn ρ) (items.map iv) acc (σ₁++τ)=some (acc++items.flatMap g,σ++τ')
 |[],acc,τ,_,_,_=>⟨τ,fun _ _=>by rw[List.flatMap_nil,Qp];exact Ug (hok τ) (hfree τ)⟩
 |x::items,acc,τ,ht,h1,hl=>by
  have hl:acc.length+(items.length+1)≤1000:=hl;refine z11 (ht x (.head _) acc τ (Nat.lt_of_lt_of_le (Nat.lt_add_of_pos_right (Nat.succ_pos _)) hl)) fun τ' e=>z11 (aloop hok hfree items (acc++g x) τ' (fun y hy=>ht y (.tail _ hy)) (fun y hy=>h1 y (.tail _ hy)) ?_) fun τ'' e2=>⟨τ'',fun ρ Hr=>Js (hok τ) (e ρ Hr) ?_⟩
  ·rw[Q8,Nat.add_assoc];exact Nat.le_trans (Nat.add_le_add_left (Nat.le_trans (Nat.add_le_add_right (h1 x (.head _)) _) (Nat.le_of_eq (Nat.add_comm _ _))) _) hl
  ·rw[List.flatMap_cons,←Qb];exact e2 ρ Hr
theorem aloop0{α:Type}{H:Fr→Prop}{σ₁:Sto}{src:Src}{turn:Fr→V→List V→Sto→Option (List V×Sto)}{iv:α→V}{g:α→List V}(hok:∀τ,src.ok (σ₁++τ)=true)(hfree:∀τ,src.free (σ₁++τ)=σ++τ)
 (items:List α) (ht:∀x∈items,∀acc τ,acc.length<1000→∃τ',∀ρ,H ρ→turn ρ (iv x) acc (σ₁++τ)=some (acc++g x,σ₁++τ')) (h1:∀x∈items,(g x).length≤1) (hl:items.length≤1000):
 ∃τ',∀ρ,H ρ→J3 src (turn ρ) (items.map iv) [] σ₁=some (items.flatMap g,σ++τ'):=by
 have:=aloop hok hfree items [] [] ht h1 (by rw[Qk,Nat.zero_add];exact hl);rwa[Qp]at this
theorem flat1{α β:Type}(f:α→β)(l:List α):(l.flatMap fun x=>[f x])=l.map f:=by
 induction l with
 |nil=>rfl
 |cons x r ih=>rw[List.flatMap_cons,ih];rfl
theorem lsrc_ok{xs:List V}(h:σ[n]?=some (.list xs)):Gx .plain (.loc n) σ=some (sL n xs,σ.set n (.ro xs)):=by unfold Gx;dsimp only;rw[h];rfl
theorem esrc_ok{xs:List V}(h:σ[n]?=some (.list xs)):Gx .enum (.loc n) σ=some (sE n xs,σ.set n (.ro xs)):=by unfold Gx;dsimp only;rw[h];rfl
theorem Yw{n:Nat}(h:n<1000):n<lim:=Nat.lt_trans h (by decide)
theorem RE.al{α:Type}{L:List α}{iv:α→V}{g:α→List V}{fr:AL}{elt it:Ex}{tg:Tg}{cd:Opt}{σ0:Sto}(hit:RE Φ it fr σ0 (.loc n) σ)(h:σ[n]?=some (.list (L.map iv)))(hl:L.length≤1000)(h1:∀x∈L,(g x).length≤1)
 (ht:∀x∈L,∀acc τ,acc.length<1000→∃τ',RT Φ elt tg cd fr (iv x) acc (σ.set n (.ro (L.map iv))++τ) (acc++g x) (σ.set n (.ro (L.map iv))++τ')):∃τ,RE Φ (.lcomp elt tg .plain it cd) fr σ0 (.loc (σ++τ).length) (σ++τ++[.list (L.flatMap g)]):=
 (aloop0 (H:=fun ρ=>Has ρ fr) (src:=sL n (L.map iv)) (turn:=lT Φ elt tg cd) (fun τ=>Jn (Qw (G7 h))) (fun τ=>free_ro h) L ht h1 hl).imp fun _ e=>RE.lc hit (lsrc_ok h) e
theorem RE.am{α:Type}{L:List α}{iv:α→V}(f:α→V){fr:AL}{elt it:Ex}{tg:Tg}{cd:Opt}{σ0:Sto}(hit:RE Φ it fr σ0 (.loc n) σ)(h:σ[n]?=some (.list (L.map iv)))(hl:L.length≤1000)
 (ht:∀x∈L,∀acc τ,acc.length<1000→∃τ',RT Φ elt tg cd fr (iv x) acc (σ.set n (.ro (L.map iv))++τ) (acc++[f x]) (σ.set n (.ro (L.map iv))++τ')):∃τ,RE Φ (.lcomp elt tg .plain it cd) fr σ0 (.loc (σ++τ).length) (σ++τ++[.list (L.map f)]):=by
 rw[←flat1];exact RE.al hit h hl (fun _ _=>Qs _) ht
noncomputable def lvV(x:Qx×V):V:=.tup [mV x.1,x.2]
theorem ism_v{m:Qx}{v:V}:Gy .isNot (.tup [mV m,v]) .none σ=some true:=rfl
noncomputable def fdF(x:Option Nat):Fl:=match x with
 |some j=>.ret (.int (j:Int))
 |none=>.next
theorem fd_loop{L:List (Qx×V)}(h:σ[nl]?=some (.list (L.map lvV))):∀(R:List (Qx×V)) (i:Nat),∃fr',RF (G0 prog N (k+1)) N (sE nl (L.map lvV)) (.many [5,2]) (bo 24 [0]) (Uj i (R.map lvV)) [(1,mV p)] (σ.set nl (.ro (L.map lvV))) (fdF (fdv i (R.map (·.1)) p)) fr' σ
 |[],i=>⟨_,RF.nil (Jn (G7 h)) (show(σ.set nl _).set nl _=σ by rw[List.set_set,Zn h])⟩
 |x::R,i=>by
  have w:=fun(r:Bool) (hr:Gf x.1 p=r)=>wB _ N (bo 24 [0]) [(1,mV p),(5,.int (i:Int)),(2,.tup [mV x.1,x.2])] (σ.set nl (.ro (L.map lvV))) ism_v rfl rfl (c_divides (N:=N) (k:=k) x.1 p) hr;rw[Q7,Q7];cases hd:Gf x.1 p with
  |true=>
   rw[show fdv i (x.1::R.map (·.1)) p=some i from if_pos hd];exact⟨_,RF.ret (Jn (G7 h)) rfl (w true hd) (Jn (G7 h)) (show(σ.set nl _).set nl _=σ by rw[List.set_set,Zn h])⟩
  |false=>
   rw[show fdv i (x.1::R.map (·.1)) p=fdv (i+1) (R.map (·.1)) p from if_neg (by rw[hd];exact Bool.false_ne_true)];exact(fd_loop h R (i+1)).imp fun fr' e=>RF.cons (Jn (G7 h)) rfl (w false hd) trivial [1] e
theorem c_first{L:List (Qx×V)}(h:σ[nl]?=some (.list (L.map lvV))):G0 prog N (k+2) 24 [mV p,.loc nl] σ=some (.int (fdI (L.map (·.1)) p),σ):=by
 refine z11 (fd_loop (N:=N) (k:=k) (p:=p) h L 0) fun fr' e=>?_;unfold fdI;generalize fdv 0 (L.map (·.1)) p=f at e⊢;have h2:=RF.for (wE _ (.var 20) [(1,mV p),(20,.loc nl)] σ) (esrc_ok h) [1] e;cases f with
 |none=>exact wF N (k+1) 24 [mV p,.loc nl] σ h2
 |some j=>exact wF N (k+1) 24 [mV p,.loc nl] σ h2
theorem fdI_ge{L:List Qx}:decide ((0:Int)≤fdI L p)=(fdv 0 L p).isSome:=by
 unfold fdI;cases fdv 0 L p with
 |none=>rfl
 |some j=>exact decide_eq_true (Int.natCast_nonneg j)
theorem c_divided{L:List Qx}(h:σ[nl]?=some (.list (L.map mV)))(hl:L.length≤1000):∃τ,G0 prog N (k+3) 28 [mV p,.loc nl] σ=some (.bool (fdv 0 L p).isSome,σ++τ):=by
 refine z11 (RE.am (Φ:=G0 prog N (k+2)) (fun m=>lvV (m,Gg 1)) (fr:=[(1,mV p),(20,.loc nl)]) (elt:=.tup (.cons (.var 2) (.cons (.glob 1) .nil))) (tg:=.one 2) (cd:=.no) (wE _ (.var 20) [(1,mV p),(20,.loc nl)] σ) h hl fun x _ acc τ ha=>⟨τ,RT.one rfl (wE _ (.tup (.cons (.var 2) (.cons (.glob 1) .nil))) [(1,mV p),(20,.loc nl),(2,mV x)] _) (Yw ha)⟩) fun τ e=>?_;have hc:=c_first (N:=N) (k:=k) (p:=p) (σ:=σ++τ++[.list ((L.map fun m=>(m,Gg 1)).map lvV)]) (nl:=(σ++τ).length) (L:=L.map fun m=>(m,Gg 1)) G1;rw[List.map_map,List.map_map,show L.map ((·.1)∘fun m=>(m,Gg 1))=L from List.map_id L]at hc;rw[←fdI_ge];exact z11 (Qz (τ':=[Ob.list (L.map fun m=>lvV (m,Gg 1))]) ⟨τ,rfl⟩) fun t ht=>⟨t,ht▸wF N (k+2) 28 [mV p,.loc nl] σ e hc⟩
end
theorem keyOf_map':∀(k:List Int),Je (k.map V.int)=some k
 |[]=>rfl
 |i::r=>by simp only[Q7,Je,keyOf_map' r,Option.map_some]
theorem keyOf_eq':∀{l:List V} {k:List Int},Je l=some k→l=k.map V.int
 |[],k,e=>by simp only[Je,Q1]at e;subst e;rfl
 |.int i::r,k,e=>by
  simp only[Je,Option.map_eq_some_iff]at e;obtain⟨t,h,rfl⟩:=e;rw[keyOf_eq' h];rfl
 |.none::_,_,e=>by simp[Je]at e
 |.bool _::_,_,e=>by simp[Je]at e
 |.str _::_,_,e=>by simp[Je]at e
 |.tup _::_,_,e=>by simp[Je]at e
 |.loc _::_,_,e=>by simp[Je]at e
structure Be where
 p:Nat
 G:Tm
 m:Qx
structure Gj(o:Nat)(bs:List Be)(ns:Nat)(σ:Sto):Prop where
 lst:σ[ns]?=some (.list (bs.map fun b=>.loc b.p))
 at_:∀b∈bs,σ[b.p]?=some (.dict (Qy b.G))
 ok:∀b∈bs,Ok b.G
 szG:∀b∈bs,Sz b.G
 ld:∀b∈bs,Jk o b.G=some b.m
 one:∀b∈bs,co b.G b.m=1
 len:bs.length≤100
theorem Gj.app{o:Nat}{bs:List Be}{ns:Nat}{σ:Sto}(h:Gj o bs ns σ)(τ:Sto):Gj o bs ns (σ++τ):=
 {h with lst:=Qw h.lst,at_:=fun b hb=>Qw (h.at_ b hb)}
section
variable{N k:Nat}{σ:Sto}{Φ:Calls}{n na nb nl ns nf:Nat}{T A B F:Tm}{m p:Qx}{o:Nat}{bs:List Be}
theorem ld_ne{xs:List V}{es:List (List Int×V)}(h1:σ[n]?=some (.list xs))(h2:σ[na]?=some (.dict es)):n≠na:=fun e=>by
 rw[e,h2]at h1;exact nomatch Option.some.inj h1
theorem Jf{xs:List V}{es:List (List Int×V)}(h1:σ[n]?=some (.list xs))(h2:σ[na]?=some (.dict es)):(σ.set n (.ro xs))[na]?=some (.dict es):=
 Gr h2 (ld_ne h1 h2)
theorem leads_loop(ho:o<3)(H:Gj o bs ns σ){fr:AL}(hf:lk fr 22=some (.loc ns))(h0:∀x,lk (stf (erf fr [2]) 2 x) 0=some (.str o)):∃τ,RE (G0 prog N (k+2)) (.lcomp (.call 22 (.cons (.var 2) (.cons (.var 0) .nil))) (.one 2) .plain (.var 22) .no) fr σ (.loc (σ++τ).length) (σ++τ++[.list ((bs.map fun b=>(b.m,Gg 1)).map lvV)]):=by
 rw[List.map_map];refine RE.am (iv:=fun b:Be=>V.loc b.p) _ (fun ρ Hr=>bnI (Hr 22 _ hf) rfl) H.lst (Nat.le_trans H.len (by decide)) fun b hb acc τ ha=>?_;refine z11 (c_lead (N:=N) (k:=k) (σ:=σ.set ns (.ro (bs.map fun b=>V.loc b.p))++τ) (na:=b.p) ho (Qw (Jf H.lst (H.at_ b hb))) (H.ld b hb)) fun τ1 h1=>⟨τ++τ1,?_⟩
 rw[Qb,H.one b hb]at h1;exact RT.one rfl (RE.two Jq (h0 _) (wE _ (.call 22 (.cons (.var 2) (.cons (.var 0) .nil))) [(2,.loc b.p),(0,.str o)] _ h1)) (Yw ha)
theorem quo_loop{xs:List V}(hl:σ[ns]?=some (.list xs)){fr:AL}:∀(R:List V) (acc:List V) (τ:Sto),acc.length+R.length≤1000→∀ρ,Has ρ fr→
 J3 (sL ns xs) (lT Φ .dict0 (.one 2) .no ρ) R acc (σ.set ns (.ro xs)++τ)=some (acc++(List.range R.length).map fun i=>V.loc (σ.length+τ.length+i),σ++τ++List.replicate R.length (.dict []))
 |[],acc,τ,_,ρ,_=>by
  refine Ug (Jn (Qw (G7 hl))) (free_ro hl) |>.trans ?_;show some (acc,σ++τ)=some (acc++[],σ++τ++[]);rw[Qp,Qp]
 |x::R,acc,τ,h,ρ,Hr=>by
  have h:acc.length+(R.length+1)≤1000:=h;have hlen:(σ.set ns (.ro xs)++τ).length=σ.length+τ.length:=by rw[Q8,List.length_set]
  have ih:=quo_loop hl R (acc++[V.loc (σ.length+τ.length)]) (τ++[.dict []]) (by rw[Q8,Nat.add_assoc,List.length_singleton,Nat.add_comm 1];exact h) ρ Hr;have t:=(RT.one (Φ:=Φ) (tg:=.one 2) (x:=x) (fr:=fr) (acc:=acc) rfl (fun _ _=>(rfl:evE Φ .dict0 _ (σ.set ns (.ro xs)++τ)=_)) (Yw (Nat.lt_of_lt_of_le (Nat.lt_add_of_pos_right (Nat.succ_pos _)) h))) ρ Hr;rw[hlen,Qb]at t;refine Js (Jn (Qw (G7 hl))) t (ih.trans ?_);show _=some (_++(List.range (R.length+1)).map _,σ++τ++(Ob.dict []::List.replicate R.length (.dict [])));rw[List.range_succ_eq_map,Q7,List.map_map,Qb,Qb,Qb,Qb,Q8];refine congrArg (fun z=>some (acc++(V.loc (σ.length+τ.length)::z),σ++(τ++(Ob.dict []::List.replicate R.length (.dict []))))) (List.map_congr_left fun i _=>congrArg V.loc ?_);rw[←Nat.add_assoc];exact Nat.add_right_comm _ 1 i
theorem maxI_ge:∀(l:List Int) (a:Int),a≤maxI l a
 |[],a=>Int.le_refl _
 |x::r,a=>by
  show a≤maxI r (if a<x then x else a);by_cases h:a<x
  ·rw[if_pos h];exact Int.le_trans (Int.le_of_lt h) (maxI_ge r x)
  ·rw[if_neg h];exact maxI_ge r a
theorem most_loop(hF:σ[nf]?=some (.dict (Qy F))):∀(R:Tm) (acc:List V) (τ:Sto),acc.length+2*R.length≤1000→(∃l,Je acc=some l)→
 ∃acc',(∀ρ,J3 (sD nf F) (l2T Φ (.var 2) 1 2 .plain (.var 1) ρ) (R.map fun x=>mV x.1) acc (σ.set nf (.rod (Qy F))++τ)=some (acc',σ++τ))∧(∃l,Je acc'=some l)∧acc'.length≤1000
 |[],acc,τ,h,hk=>⟨acc,fun _=>Ug (sD_ok hF) (sD_free hF),hk,h⟩
 |x::R,acc,τ,h,hk=>by
  have h:acc.length+(2*R.length+1+1)≤1000:=h;have hl1:acc.length<1000:=Nat.lt_of_lt_of_le (Nat.lt_add_of_pos_right (Nat.succ_pos _)) h;have hl2:(acc++[V.int (x.1.1:Int)]).length<1000:=by
   rw[Q8];exact Nat.lt_of_lt_of_le (Nat.add_lt_add_left (Nat.succ_lt_succ (Nat.succ_pos _)) _) h
  have hturn:∀ρ,l2T Φ (.var 2) 1 2 .plain (.var 1) ρ (mV x.1) acc (σ.set nf (.rod (Qy F))++τ)=some (acc++[.int (x.1.1:Int)]++[.int (x.1.2:Int)],σ.set nf (.rod (Qy F))++τ):=fun ρ=>
   (Js (src:=⟨[.int (x.1.1:Int),.int (x.1.2:Int)],none,none⟩) rfl (if_pos (Yw hl1)) (Js rfl (if_pos (Yw hl2)) (Ug rfl rfl)):J3 _ (l2I Φ (.var 2) 2 (upd (drp ρ [1,2]) 1 (mV x.1))) _ acc _=_)
  obtain⟨l,hl⟩:=hk;refine(most_loop hF R (acc++[.int (x.1.1:Int)]++[.int (x.1.2:Int)]) τ ?_ ⟨l++[(x.1.1:Int),(x.1.2:Int)],?_⟩).imp fun acc' e=>⟨fun ρ=>Js (sD_ok hF) (hturn ρ) (e.1 ρ),e.2⟩
  ·rw[Q8,Q8,Nat.add_assoc,Nat.add_assoc];exact Nat.le_trans (Nat.add_le_add_left (Nat.le_of_eq (by rw[←Nat.add_assoc,Nat.add_comm];rfl)) _) h
  ·rw[keyOf_eq' hl];have e:List.map V.int l++[V.int (x.1.1:Int)]++[V.int (x.1.2:Int)]=(l++[(x.1.1:Int),(x.1.2:Int)]).map V.int:=by rw[Qr,Qb];rfl
   rw[e,keyOf_map']
end
noncomputable def dstep(left:Tm)(b:Be)(m:Qx):Tm:=tsum left (tneg (Gw b.G (Gu m b.m) (co left m)))
inductive Jz(o:Nat)(bs:List Be):Tm→Tm→Nat→Tm→Prop
 |done (rest:Tm):Jz o bs [] rest 0 rest
 |keep {left rest:Tm} {m:Qx} {n:Nat} {r:Tm}:Ok left→Sz left→Jk o left=some m→fdv 0 (bs.map (·.m)) m=none→(∀x∈keys (tdel left m),mlt o x m=true)→
  Jz o bs (tdel left m) (tput rest m (co left m)) n r→Jz o bs left rest (n+1) r
 |step {left rest:Tm} {m:Qx} {n:Nat} {r:Tm} {i:Nat} {b:Be}:Ok left→Sz left→Jk o left=some m→fdv 0 (bs.map (·.m)) m=some i→bs[i]?=some b→Ok (Gw b.G (Gu m b.m) (co left m))→Sz (Gw b.G (Gu m b.m) (co left m))→
  (∀x∈keys (dstep left b m),mlt o x m=true)→Jz o bs (dstep left b m) rest n r→Jz o bs left rest (n+1) r
noncomputable def divTest:Ex:=.cmp .gt (.prim .len (.cons (.var 25) .nil)) (.int 0)
theorem fdv_t{l:Qx}{L:List Qx}{p:Qx}{i:Nat}(h:Gf l p=true):fdv i (l::L) p=some i:=if_pos h
theorem fdv_f{l:Qx}{L:List Qx}{p:Qx}{i:Nat}(h:Gf l p=false):fdv i (l::L) p=fdv (i+1) L p:=if_neg (by rw[h];exact Bool.false_ne_true)
theorem fdv_spec:∀{L:List Qx} {p:Qx} {i j:Nat},fdv i L p=some j→i≤j∧∃l,L[j-i]?=some l∧Gf l p=true
 |l::L,p,i,j,h=>by
  cases hd:Gf l p with
  |true=>
   rw[fdv_t hd]at h;rw[←Option.some.inj h,Nat.sub_self];exact⟨Qs _,l,rfl,hd⟩
  |false=>
   rw[fdv_f hd]at h;have h1:=fdv_spec h;refine⟨Nat.le_of_succ_le h1.1,?_⟩;rw[show j-i=(j-(i+1))+1 from(Nat.sub_add_cancel (Nat.sub_pos_of_lt h1.1)).symm];exact h1.2
theorem fdv_none:∀{L:List Qx} {p:Qx} {i:Nat},fdv i L p=none↔∀l∈L,Gf l p=false
 |[],p,i=>⟨fun _ _ h=>(nomatch h),fun _=>rfl⟩
 |l::L,p,i=>by
  cases hd:Gf l p with
  |true=>rw[fdv_t hd];exact⟨fun h=>(nomatch h),fun h=>by rw[h l (.head _)]at hd;cases hd⟩
  |false=>rw[fdv_f hd,fdv_none,List.forall_mem_cons];exact⟨fun h=>⟨hd,h⟩,fun h=>h.2⟩
section
variable{N k:Nat}{σ:Sto}{Φ:Calls}{n na nb nl ns nf:Nat}{T A B F:Tm}{m p:Qx}{o:Nat}{bs:List Be}
theorem subop_li{i:Int}:Jg (.loc n) (.int i) σ=(σ[n]?.bind Ob.asLst).bind fun l=>if 0≤i∧i<2^63 then l[i.toNat]? else none:=rfl
theorem p63:((1000:Nat):Int)<2^63:=by decide+kernel
theorem Y0{xs:List V}{x:V}{j:Nat}(h:σ[n]?=some (.list xs))(hj:xs[j]?=some x)(hl:xs.length≤1000):Jg (.loc n) (.int (j:Int)) σ=some x:=by
 have hj1:j<xs.length:=(Q6 hj).1;have hj2:(j:Int)<2^63:=Int.lt_of_le_of_lt (Int.ofNat_le.mpr (Nat.le_trans (Nat.le_of_lt hj1) hl)) p63;rw[subop_li,h,Q0,asLst_l,Q0,if_pos ⟨Int.natCast_nonneg j,hj2⟩,Int.toNat_natCast,hj]
theorem U7(h:σ[n]?=some (.dict (Qy T)))(hl:T.length<1000):Jd .len [.loc n] σ=some (.int (T.length:Int),σ):=by
 rw[←rows_len];show((σ[n]?.bind Ob.len).bind fun m=>if m<lim then some (V.int m,σ)else none)=_;rw[h];exact if_pos (rl hl)
theorem Jr{xs:List V}(h:σ[n]?=some (.list xs))(hl:xs.length<1000):Jd .len [.loc n] σ=some (.int (xs.length:Int),σ):=by
 show((σ[n]?.bind Ob.len).bind fun m=>if m<lim then some (V.int m,σ)else none)=_;rw[h];exact if_pos (Yw hl)
noncomputable def dF(o ns nl nq nr nL:Nat)(M:Int)(w:Nat):AL:=[(22,.loc ns),(0,.str o),(20,.loc nl),(24,.loc nq),(23,.loc nr),(25,.loc nL),(28,.int M),(29,.int (w:Int))]
structure DI(o:Nat)(bs:List Be)(σ:Sto)(nl nq:Nat)(qs:List Nat)(left rest:Tm)(n nr nL w:Nat)(σ':Sto):Prop where
 pre:∃τ,σ'=σ++τ
 r29:w+36*n≤3000000
 lds:σ'[nl]?=some (.list ((bs.map fun b=>(b.m,Gg 1)).map lvV))
 quo:σ'[nq]?=some (.list (qs.map V.loc))
 qlen:qs.length=bs.length
 qd:∀(i:Nat) (b:Be) (q:Nat),bs[i]?=some b→qs[i]?=some q→∃Q:Tm,σ'[q]?=some (.dict (Qy Q))∧Q.length+n≤900∧∀s∈keys Q,∀x∈keys left,mlt o x (Gq s b.m)=true
 qge:∀q∈qs,σ.length≤q∧q≠nr∧q≠nL
 qnd:qs.Nodup
 rst:σ'[nr]?=some (.dict (Qy rest))
 rlen:rest.length+n≤900
 lft:σ'[nL]?=some (.dict (Qy left))
 nrge:σ.length≤nr
 nLge:σ.length≤nL
 nrL:nr≠nL
theorem Gj.pre{o:Nat}{bs:List Be}{ns:Nat}{σ σ':Sto}(h:Gj o bs ns σ)(hp:∃τ,σ'=σ++τ):Gj o bs ns σ':=z11 hp fun τ e=>e▸h.app τ
theorem far_ok{fr:AL}{M:Int}(hM:20000≤M)(hm:m.1<6∧m.2<6)(h1:lk fr 1=some (mV m))(h2:∀x,lk (stf (erf fr [2]) 2 x) 28=some (.int M)):RE Φ (.lcomp (.cmp .gt (.var 2) (.var 28)) (.one 2) .plain (.var 1) .no) fr σ (.loc σ.length) (σ++[.list [.bool false,.bool false]]):=by
 have g:∀n:Nat,n<6→decide (M<(n:Int))=false:=fun n h=>decide_eq_false (Int.not_lt.mpr (Int.le_trans (Int.ofNat_le.mpr (Nat.le_trans (Nat.le_of_lt h) (by decide:6≤20000))) hM));have r:∀n:Nat,n<6→RE Φ (.cmp .gt (.var 2) (.var 28)) (stf (erf fr [2]) 2 (.int (n:Int))) σ (.bool false) σ:=fun n h=>g n h▸RE.two Jq (h2 _) (wE _ (.cmp .gt (.var 2) (.var 28)) [(2,.int (n:Int)),(28,.int M)] σ);exact lc2 (fun ρ H=>bnI (H 1 _ h1) rfl) rfl (RT.one rfl (r _ hm.1) lim_0) (RT.one rfl (r _ hm.2) lim_1)
theorem any_ff:Jd .any [.loc σ.length] (σ++[.list [.bool false,.bool false]])=some (.bool false,σ++[.list [.bool false,.bool false]]):=by
 have e:Gn (.loc σ.length) (σ++[.list [.bool false,.bool false]])=some [.bool false,.bool false]:=by
  unfold Gn;dsimp only;rw[G1]
 show((Gn (.loc σ.length) (σ++[.list [.bool false,.bool false]])).bind anyV).bind _=_;rw[e];rfl
theorem div_head(hN:Big N)(ho:o<3){left rest:Tm}{n nr nL nq w:Nat}{qs:List Nat}{σ':Sto}(I:DI o bs σ nl nq qs left rest (n+1) nr nL w σ')(ok:Ok left)(szL:Sz left)(hl:Jk o left=some m)
 {P:Prop} (kk:∀τ:Sto,G0 prog N (k+6) 22 [.loc nL,.str o] σ'=some (.tup [mV m,Gg (co left m)],σ'++τ)→left.length<1000→decide ((0:Int)<(left.length:Int))=true→decide ((3000000:Int)<(w:Int)+(left.length:Int))=false→G0 prog N (k+6) 15 [Gg (co left m)] (σ'++τ)=some (.bool false,σ'++τ)→(m.1<6∧m.2<6)→sz (co left m)→w+left.length+36*n≤3000000→P):P:=by
 refine z11 (c_lead (N:=N) (k:=k+4) ho I.lft hl) fun τ1 h1=>?_;have hmem:=Us (co_mem (Go hl).1);have hq:=szL _ hmem;have hw:w+left.length+36*n≤3000000:=by
  rw[Nat.add_assoc,Nat.add_comm left.length];exact Nat.le_trans (Nat.add_le_add_left (Nat.add_le_add_left ok.len _) _) I.r29
 exact kk τ1 h1 (Nat.lt_of_le_of_lt ok.len (by decide)) (decide_eq_true (Int.ofNat_lt.mpr (List.length_pos_of_mem hmem))) (decide_eq_false (Int.not_lt.mpr (Int.ofNat_le.mpr (Nat.le_trans (Nat.le_add_right _ _) hw)))) (c_vast (k:=k+4) hN hq) (ok.small _ hmem) hq hw
theorem ms_eq(bs:List Be):((bs.map fun b=>(b.m,Gg 1)).map (·.1))=bs.map (·.m):=List.map_map
theorem U8{T:Tm}{m x:Qx}(h:x∈keys (tdel T m)):x∈keys T:=(U9.map _).subset h
theorem rinv1:(1:Rat)⁻¹ =1:=by grind
theorem len_keys{T:Tm}:(keys T).length=T.length:=Qi _
theorem len_tput{T:Tm}{q:Rat}:(tput T m q).length≤T.length+1:=by
 rw[←len_keys,←len_keys,keys_tput];by_cases h:m∈keys T
 ·rw[if_pos h];exact Nat.le_succ _
 ·rw[if_neg h,Q8];exact Qs _
theorem len_tdel{T:Tm}:(tdel T m).length≤T.length:=U9.length_le
theorem len_tadd{T:Tm}{q:Rat}:(tadd T m q).length≤T.length+1:=by
 unfold tadd;split
 ·exact Nat.le_succ_of_le len_tdel
 ·exact len_tput
theorem keys_tadd{T:Tm}{q:Rat}{x:Qx}(h:x∈keys (tadd T m q)):x∈keys T∨x=m:=by
 unfold tadd at h;split at h
 ·exact .inl (U8 h)
 ·rw[keys_tput]at h;split at h
  ·exact .inl h
  ·exact(Qh h).imp id Q2
theorem Gd{a b:Qx}:Gf a b=true↔a.1≤b.1∧a.2≤b.2:=by unfold Gf;rw[Qc,Q9,Q9]
theorem J2{a b:Qx}(h:Gf b a=true):Gq (Gu a b) b=a:=
 Prod.ext (Nat.sub_add_cancel (Gd.mp h).1) (Nat.sub_add_cancel (Gd.mp h).2)
theorem le900{a b n:Nat}(h:a≤b+1)(h2:b+(n+1)≤900):a+n≤900:=Nat.le_trans (Nat.add_le_add_right h n) (Nat.le_trans (Nat.le_of_eq (Nat.add_right_comm b 1 n)) h2)
theorem lt900{a n:Nat}(h:a+(n+1)≤900):a<1000:=Nat.lt_of_le_of_lt (Nat.le_trans (Nat.le_add_right _ _) h) (by decide)
theorem fuel_up{n f:Nat}(h:n<f):∃g,f=g+1:=⟨f-1,(Nat.sub_add_cancel (Nat.zero_lt_of_lt h)).symm⟩
abbrev DivL(N k o ns nl nq nr nL:Nat)(M:Int)(w fuel:Nat)(σ σ':Sto)(r:Tm):Prop:=∃nL' w' σ'',RW (G0 prog N (k+6)) N fuel divTest (bo 25 [4]) (dF o ns nl nq nr nL M w) σ' .next (dF o ns nl nq nr nL' M w') σ''∧(∃τ,σ''=σ++τ)∧σ''[nr]?=some (.dict (Qy r))
theorem div_loop(hN:Big N)(ho:o<3)(H:Gj o bs ns σ){M:Int}(hM:20000≤M):∀{left rest:Tm} {n:Nat} {r:Tm},Jz o bs left rest n r→∀{nq nr nL w:Nat} {qs:List Nat} {σ':Sto} (fuel:Nat),DI o bs σ nl nq qs left rest n nr nL w σ'→n<fuel→
 DivL N k o ns nl nq nr nL M w fuel σ σ' r:=by
 intro left rest n r run;induction run with
 |done rest=>
  intro nq nr nL w qs σ' fuel I hf;cases fuel with
  |zero=>exact absurd hf (Nat.not_lt_zero _)
  |succ fuel=>exact⟨nL,w,σ',RW.stop (wE _ divTest (dF o ns nl nq nr nL M w) σ' (U7 I.lft (by decide))) rfl,I.pre,I.rst⟩
 | @keep left rest m n r ok szL hl hd hlt run ih=>
  intro nq nr nL w qs σ' fuel I hf;cases fuel with
  |zero=>exact absurd hf (Nat.not_lt_zero _)
  |succ fuel=>
  refine div_head (k:=k) hN ho I ok szL hl fun τ e1 e2 e3 e4 e5 e6 e7 e8=>?_;have gS:∀{j:Nat} {ob:Ob},σ'[j]?=some ob→(σ'++τ++[Ob.list [.bool false,.bool false]])[j]?=some ob:=fun h=>Qw (Qw h);have hg:Jb left m=some (co left m):=co_mem (Go hl).1;have hc:=c_first (N:=N) (k:=k+4) (p:=m) (gS I.lds);rw[ms_eq,show fdI (bs.map (·.m)) m= -1 by unfold fdI;rw[hd]]at hc;have hst1:=Gr (o':=.dict (Qy (tput rest m (co left m)))) (gS I.lft) I.nrL;have hold:∀{j:Nat} {ob:Ob},σ'[j]?=some ob→nr≠j→nL≠j→(((σ'++τ++[Ob.list [.bool false,.bool false]]).set nr (.dict (Qy (tput rest m (co left m))))).set nL (.dict (Qy (tdel left m))))[j]?=some ob:=fun h h1 h2=>Gr (Gr (gS h) h1) h2;refine z31 (ih (nL:=nL) (nr:=nr) (qs:=qs) (w:=w+left.length) fuel {pre:=Yb (Yb (Qz (Qz I.pre)) I.nrge) I.nLge,r29:=e8,lds:=?_,quo:=?_,qlen:=I.qlen,qd:=?_,qge:=I.qge,qnd:=I.qnd,rst:=?_,rlen:=?_,lft:=?_,nrge:=I.nrge,nLge:=I.nLge,nrL:=I.nrL} (Nat.lt_of_succ_lt_succ hf)) fun nL' w' σ'' h=>⟨nL',w',σ'',RW.turn (wE _ divTest (dF o ns nl nq nr nL M w) σ' (U7 I.lft e2)) e3 (wB (G0 prog N (k+6)) N (bo 25 [4]) (dF o ns nl nq nr nL M w) σ' e1 (U7 (Qw I.lft) e2) e4 e5 rfl (far_ok hM e6 rfl fun _=>rfl) any_ff rfl hc (decide_eq_true (by decide)) (set_ok (gS I.rst) (lt900 I.rlen)) rfl (pop1_ok hst1 e2 hg)) [22,0,20,24,23,25,28,29] h.1 trivial,h.2⟩
  ·exact hold I.lds (ld_ne I.lds I.rst).symm (ld_ne I.lds I.lft).symm
  ·exact hold I.quo (ld_ne I.quo I.rst).symm (ld_ne I.quo I.lft).symm
  ·intro i b q hb hq;refine z13 (I.qd i b q hb hq) fun Q h1 h2 h3=>?_;have hge:=I.qge q (Qf hq);exact⟨Q,hold h1 (Ne.symm hge.2.1) (Ne.symm hge.2.2),Nat.le_trans (Nat.add_le_add_left (Nat.le_succ n) _) h2,fun s hs x hx=>h3 s hs x (U8 hx)⟩
  ·exact Gr (G7 (gS I.rst)) (Ne.symm I.nrL)
  ·exact le900 len_tput I.rlen
  ·exact G7 hst1
 | @step left rest m n r i b ok szL hl hd hb okS szS hlt run ih=>
  intro nq nr nL w qs σ' fuel I hf;cases fuel with
  |zero=>exact absurd hf (Nat.not_lt_zero _)
  |succ fuel=>
  refine div_head (k:=k) hN ho I ok szL hl fun τ e1 e2 e3 e4 e5 e6 e7 e8=>?_;let S:Sto:=σ'++τ++[Ob.list [.bool false,.bool false]];have gS:∀{j:Nat} {ob:Ob},σ'[j]?=some ob→S[j]?=some ob:=fun h=>Qw (Qw h);have hSp:∃t,S=σ++t:=Qz (Qz I.pre);have hbm:b∈bs:=Qf hb;have hc:=c_first (N:=N) (k:=k+4) (p:=m) (gS I.lds);rw[ms_eq,show fdI (bs.map (·.m)) m=(i:Int) by unfold fdI;rw[hd]]at hc;have hdv:Gf b.m m=true:=z12 (fdv_spec hd).2 fun l h1 h2=>by
   rw[Nat.sub_zero,Qd,hb]at h1;have e:b.m=l:=Option.some.inj h1;exact e▸h2
  have hil:i<bs.length:=(Q6 hb).1;refine cps fun qG qK=>?_;refine z11 (⟨_,Qe (by rw[I.qlen];exact hil)⟩:∃q,qs[i]?=some q) fun q hqi=>?_;refine z13 (I.qd i b q hb hqi) fun Q hQ1 hQ2 hQ3=>?_;have hqge:=I.qge q (Qf hqi);refine z11 (c_quotient (N:=N) (k:=k+5) (σ:=S) hdv) fun τ1 hquo=>?_;have hnew:Jb Q (Gu m b.m)=none:=Ja.mpr fun hm=>by
   have:=hQ3 _ hm m (Go hl).1;rw[J2 hdv,Yl]at this;cases this
  have hdivq:=c_rdiv (N:=N) (k:=k+3) (σ:=S++τ1) hN e7 (⟨by decide,by decide⟩:sz 1) (by decide);rw[show co left m/1=co left m by rw[Rat.div_def,rinv1,Rat.mul_one]]at hdivq;let S1:Sto:=(S++τ1).set q (.dict (Qy (tadd Q (Gu m b.m) (co left m))));have hadd:G0 prog N (k+6) 17 [.loc q,mV (Gu m b.m),Gg (co left m)] (S++τ1)=some (.none,S1):=c_add_term hN (Qw (gS hQ1)) (lt900 hQ2) e7 (fun x hx=>by rw[hnew]at hx;cases hx);have hp2:∃t,S1=σ++t:=Yb (Qz hSp) hqge.1;have hBas2:=H.pre hp2;refine z11 (c_mvshift (N:=N) (k:=k+2) (σ:=S1) (na:=b.p) (s:=Gu m b.m) hN (hBas2.at_ b hbm) (H.ok b hbm) (H.szG b hbm) e7) fun τ2 hsh=>?_;have hL2:S1[nL]?=some (.dict (Qy left)):=Gr (Qw (gS I.lft)) hqge.2.2;refine z23 (c_mvsub (N:=N) (k:=k) (σ:=S1++τ2++[.dict (Qy (Gw b.G (Gu m b.m) (co left m)))]) (na:=nL) (nb:=S1.length+τ2.length) hN (Qw (Qw hL2)) last2 ok okS szL szS) fun τ3 nL' hsu1 hsu2 hsu3=>?_;refine qK ?_;have hl1:((bs.map fun b=>(b.m,Gg 1)).map lvV)[i]?=some (.tup [mV b.m,Gg 1]):=by rw[Qd,Qd,hb];rfl
  have hbl:bs.length≤1000:=Nat.le_trans H.len (by decide);have hl1':((bs.map fun b=>(b.m,Gg 1)).map lvV).length≤1000:=by rw[Qi,Qi];exact hbl
  have hs1:=Y0 (gS I.lds) hl1 hl1';have hs2:Jg (.loc nq) (.int (i:Int)) (S++τ1)=some (.loc q):=Y0 (Qw (gS I.quo)) (by rw[Qd,hqi];rfl) (by rw[Qi,I.qlen];exact hbl);have hs3:Jg (.loc ns) (.int (i:Int)) S1=some (.loc b.p):=Y0 hBas2.lst (by rw[Qd,hb];rfl) (by rw[Qi];exact hbl);have hlen1:σ'.length≤nL':=by
   refine Nat.le_trans ?_ hsu3;rw[Qb,Q8,List.length_set,Q8,Q8,Q8];exact Nat.le_trans (Nat.le_trans (Nat.le_trans (Nat.le_add_right _ _) (Nat.le_add_right _ _)) (Nat.le_add_right _ _)) (Nat.le_add_right _ _)
  have hold:∀{j:Nat} {ob:Ob},σ'[j]?=some ob→q≠j→(S1++τ2++[.dict (Qy (Gw b.G (Gu m b.m) (co left m)))]++τ3)[j]?=some ob:=fun h hj=>Qw (Qw (Qw (Gr (Qw (gS h)) hj)));have hltn:∀{j:Nat} {ob:Ob},σ'[j]?=some ob→j≠nL':=fun h=>Nat.ne_of_lt (Nat.lt_of_lt_of_le (J5 h) hlen1);refine z31 (ih (nL:=nL') (nr:=nr) (qs:=qs) (w:=w+left.length) fuel {pre:=Qz (Qz (Qz hp2)),r29:=e8,lds:=hold I.lds (ld_ne I.lds hQ1).symm,quo:=hold I.quo (ld_ne I.quo hQ1).symm,qlen:=I.qlen,qd:=?_,qge:=?_,qnd:=I.qnd,rst:=hold I.rst hqge.2.1,rlen:=Nat.le_trans (Nat.add_le_add_left (Nat.le_succ n) _) I.rlen,lft:=hsu2,nrge:=I.nrge,nLge:=Nat.le_trans (J7 I.pre) hlen1,nrL:=hltn I.rst} (Nat.lt_of_succ_lt_succ hf)) fun nL' w' σ'' h=>⟨nL',w',σ'',RW.turn (wE _ divTest (dF o ns nl nq nr nL M w) σ' (U7 I.lft e2)) e3 (wB (G0 prog N (k+6)) N (bo 25 [4]) (dF o ns nl nq nr nL M w) σ' e1 (U7 (Qw I.lft) e2) e4 e5 rfl (far_ok hM e6 rfl fun _=>rfl) any_ff rfl hc (decide_eq_false (Int.not_lt.mpr (Int.natCast_nonneg i))) hs1 rfl hquo (Y0 (Qw (gS I.lds)) hl1 hl1') rfl hdivq hs2 hadd hs3 hsh hsu1) [22,0,20,24,23,25,28,29] h.1 trivial,h.2⟩
  ·intro j b' q' hb' hq';refine z13 (I.qd j b' q' hb' hq') fun Q' g1 g2 g3=>?_;have hbelow:∀x∈keys (dstep left b m),mlt o x m=true:=hlt;by_cases hjq:q'=q
   ·subst hjq;have hij:j=i:=(List.getElem?_inj (Q6 hq').1 I.qnd).mp (hq'.trans hqi.symm);subst hij;rw[hb]at hb';cases hb';refine⟨tadd Q (Gu m b.m) (co left m),Qw (Qw (Qw (G7 (Qw (gS hQ1))))),le900 len_tadd hQ2,?_⟩;intro s hs x hx;rcases keys_tadd hs with hs|rfl
    ·exact Jy (hbelow x hx) (hQ3 s hs m (Go hl).1)
    ·rw[J2 hdv];exact hbelow x hx
   ·exact⟨Q',hold g1 (Ne.symm hjq),Nat.le_trans (Nat.add_le_add_left (Nat.le_succ n) _) g2,fun s hs x hx=>Jy (hbelow x hx) (g3 s hs m (Go hl).1)⟩
  ·intro q' hq';refine z11 (Qn hq') fun j hj=>?_;have hjl:j<bs.length:=I.qlen▸(Q6 hj).1;refine z12 (I.qd j bs[j] q' (Qe hjl) hj) fun Q' g1 _=>?_;have:=I.qge q' hq';exact⟨this.1,this.2.1,hltn g1⟩
theorem Big.small(hN:Big N){n:Nat}(h:n<2^20):n<N:=hN n (by
 by_cases h0:n=0
 ·subst h0;decide
 ·exact Nat.lt_trans ((Nat.log2_lt h0).mpr h) (by decide))
theorem range_locs{a n i q:Nat}(h:((List.range n).map fun i=>a+i)[i]?=some q):q=a+i:=by
 rw[Qd]at h;obtain⟨j,h1,h2⟩:=Qo h;have:=Q6 h1;rw[←h2,←this.2,List.getElem_range]
theorem max_list{l:List Int}{xs:List V}{a:Int}(h:Je xs=some (a::l)):Jd .max [.loc σ.length] (σ++[.list xs])=some (.int (maxI l a),σ++[.list xs]):=by
 have e:Gn (.loc σ.length) (σ++[.list xs])=some xs:=by
  unfold Gn;dsimp only;rw[G1]
 show((Gn (.loc σ.length) (σ++[.list xs])).bind intsOf).bind _=_;rw[e];show(Je xs).bind _=_;rw[h];rfl
theorem addl_ok{xs ys:List V}(h1:σ[n]?=some (.list xs))(h2:σ[na]?=some (.list ys))(h:xs.length+ys.length<lim):Jx .add (.loc n) (.loc na) σ=some (.loc σ.length,σ++[.list (xs++ys)]):=by
 show((σ[n]?.bind Ob.asLst).bind fun a=>(σ[na]?.bind Ob.asLst).bind fun b=>if a.length+b.length<lim then some (V.loc σ.length,σ++[.list (a++b)])else none)=_;rw[h1,h2];exact if_pos h
theorem c_mvdivide(hN:Big N)(ho:o<3)(H:Gj o bs ns σ)(hF:σ[nf]?=some (.dict (Qy F)))(okF:Ok F){r:Tm}(run:Jz o bs F [] n r)(hn:n≤800):
 ∃τ nq nr,G0 prog N (k+7) 25 [.loc nf,.loc ns,.str o] σ=some (.tup [.loc nq,.loc nr],σ++τ)∧(σ++τ)[nr]?=some (.dict (Qy r)):=by
 let xs:=bs.map fun b=>V.loc b.p;let fr0:AL:=[(21,.loc nf),(22,.loc ns),(0,.str o)]
 refine cps fun qG qK=>?_;refine z11 (leads_loop (N:=N) (k:=k+4) (fr:=fr0) ho H rfl fun _=>rfl) fun τ1 e1=>?_;let LV:=(bs.map fun b=>(b.m,Gg 1)).map lvV;let σ1:Sto:=σ++τ1++[.list LV];have hs1:σ1[ns]?=some (.list xs):=Qw (Qw H.lst);have hxl:xs.length=bs.length:=Qi _;have hbl:=H.len;let fr1:AL:=[(21,.loc nf),(22,.loc ns),(0,.str o),(20,.loc (σ++τ1).length)]
 have e2:=quo_loop (Φ:=G0 prog N (k+6)) hs1 (fr:=fr1) xs [] [] (by rw[hxl,Qk,Nat.zero_add];exact Nat.le_trans hbl (by decide));rw[Qp,Qp,List.nil_append,Qk,hxl]at e2;let qs:=(List.range bs.length).map fun i=>σ1.length+i;have hqs:((List.range bs.length).map fun i=>V.loc (σ1.length+0+i))=qs.map V.loc:=by rw[List.map_map];rfl
 rw[hqs]at e2;have e2':=RE.lc (wE (G0 prog N (k+6)) (.var 22) fr1 σ1) (lsrc_ok hs1) e2;let σa:Sto:=σ1++List.replicate bs.length (Ob.dict []);let σ2:Sto:=σa++[.list (qs.map V.loc)];let σ3:Sto:=σ2++[.dict []];let σ4:Sto:=σ3++[.dict (Qy F)];have hf2:σ3[nf]?=some (.dict (Qy F)):=Qw (Qw (Qw (Qw (Qw hF))));let σ5:Sto:=σ4++[.list [.int 20000]];have hf5:σ5[nf]?=some (.dict (Qy F)):=Qw (Qw hf2);refine z13 (most_loop (Φ:=G0 prog N (k+6)) hf5 F [] [] (Nat.le_trans (Nat.le_of_eq (Nat.zero_add _)) (Nat.le_trans (Nat.mul_le_mul_left 2 okF.len) (by decide))) ⟨[],rfl⟩) fun acc e3 hl hal=>?_;refine z11 hl fun l hl=>?_;simp only[Qp]at e3;let σ6:Sto:=σ5++[.list acc];let σ7:Sto:=σ6++[.list ([.int 20000]++acc)];have e3':=RE.ld (wE (G0 prog N (k+6)) (.var 21) [(21,.loc nf),(22,.loc ns),(0,.str o),(20,.loc (σ++τ1).length),(24,.loc σa.length),(23,.loc σ2.length),(25,.loc σ3.length),(29,.int 0)] σ5) (sD_src hf5) fun ρ _=>e3 ρ;have hmax:Jd .max [.loc σ6.length] σ7=some (.int (maxI l 20000),σ7):=max_list (congrArg (Option.map _) hl);have hadd:Jx .add (.loc σ4.length) (.loc σ5.length) σ6=some (.loc σ6.length,σ7):=addl_ok (Qw G1) G1 (Nat.lt_of_le_of_lt (Nat.add_le_add_left hal 1) (by decide));have up3:∀{j:Nat} {ob:Ob},σ3[j]?=some ob→σ7[j]?=some ob:=fun h=>Qw (Qw (Qw (Qw h)));have hge1:σ.length≤σ1.length:=J7 (Qz ⟨τ1,rfl⟩);have hga:σa.length=σ1.length+bs.length:=by rw[Q8,List.length_replicate]
 have hg2:σ2.length=σ1.length+bs.length+1:=by rw[←hga];exact Q8
 have hg3:σ3.length=σ1.length+bs.length+1+1:=by rw[←hg2];exact Q8
 have hq7:∀i,i<bs.length→σ7[σ1.length+i]?=some (.dict []):=fun i hi=>by
  refine up3 (Qw (Qw ?_));rw[List.getElem?_append_right (Nat.le_add_right _ _),Nat.add_sub_cancel_left,List.getElem?_replicate,if_pos hi]
 have hI:DI o bs σ (σ++τ1).length σa.length qs F [] n σ2.length σ3.length 0 σ7:=
  {
   pre:=Qz (Qz (Qz (Qz (Qz (Qz (Qz (Qz (⟨τ1,rfl⟩)))))))),r29:=Nat.le_trans (Nat.le_of_eq (Nat.zero_add _)) (Nat.le_trans (Nat.mul_le_mul_left 36 hn) (by decide)),
   lds:=up3 (Qw (Qw (Qw G1))),quo:=up3 (Qw G1),qlen:=by rw[Qi,List.length_range],
   qd:=fun i b q hb hq=>⟨[],range_locs hq▸hq7 i (Q6 hb).1,Nat.le_trans (Nat.le_of_eq (Nat.zero_add _)) (Nat.le_trans hn (by decide)),fun s hs=>nomatch hs⟩
   qge:=fun q hq=>by
    obtain⟨i,hi,rfl⟩:=Qg hq;have hi:=Nat.add_lt_add_left (List.mem_range.mp hi) σ1.length;exact⟨Nat.le_trans hge1 (Nat.le_add_right _ _),Nat.ne_of_lt (hg2▸Nat.lt_succ_of_lt hi),Nat.ne_of_lt (hg3▸Nat.lt_succ_of_lt (Nat.lt_succ_of_lt hi))⟩
   qnd:=List.pairwise_map.mpr (List.nodup_range.imp fun h e=>h (Nat.add_left_cancel e))
   rst:=up3 G1,rlen:=Nat.le_trans (Nat.le_of_eq (Nat.zero_add _)) (Nat.le_trans hn (by decide)),lft:=Qw (Qw (Qw G1)),
   nrge:=Nat.le_trans hge1 (hg2▸Nat.le_trans (Nat.le_add_right _ bs.length) (Nat.le_succ _)),nLge:=Nat.le_trans hge1 (hg3▸Nat.le_trans (Nat.le_add_right _ bs.length) (Nat.le_add_right _ 2)),nrL:=Nat.ne_of_lt (hg3▸hg2▸Nat.lt_succ_self _)}
 refine z33 (div_loop (k:=k) hN ho H (maxI_ge l 20000) run N hI (hN.small (Nat.lt_of_le_of_lt hn (by decide)))) fun nL' w' σ'' g1 g2 g5=>z11 g2 fun τ g2=>?_;refine qK ?_;subst g2;exact⟨τ,_,_,wF N (k+6) 25 [.loc nf,.loc ns,.str o] σ e1 e2' (dict_ok hf2 okF) e3' hadd hmax (RW.loop [22,0,20,24,23,25,28,29] g1),g5⟩
theorem c_rest(hN:Big N)(ho:o<3)(H:Gj o bs ns σ)(hF:σ[nf]?=some (.dict (Qy F)))(okF:Ok F){r:Tm}(run:Jz o bs F [] n r)(hn:n≤800):
 ∃τ nr,G0 prog N (k+8) 26 [.loc nf,.loc ns,.str o] σ=some (.loc nr,σ++τ)∧(σ++τ)[nr]?=some (.dict (Qy r)):=
 z32 (c_mvdivide (k:=k) hN ho H hF okF run hn) fun τ nq nr e h=>⟨τ,nr,wF N (k+7) 26 [.loc nf,.loc ns,.str o] σ e rfl,h⟩
end
noncomputable def spoly(A B:Tm)(a b:Qx):Tm:=tsum (Gw A (Gu (G9 a b) a) 1) (tneg (Gw B (Gu (G9 a b) b) 1))
theorem Yq(a b:Qx):Gf a (G9 a b)=true:=Gd.mpr ⟨Nat.le_max_left _ _,Nat.le_max_left _ _⟩
theorem Yp(a b:Qx):Gf b (G9 a b)=true:=Gd.mpr ⟨Nat.le_max_right _ _,Nat.le_max_right _ _⟩
theorem sz_one:sz 1:=⟨by decide,by decide⟩
theorem tshift_one{A:Tm}{s:Qx}:Gw A s 1=A.map fun x=>(Gq x.1 s,x.2):=by
 unfold Gw;rw[if_neg (by decide)];exact List.map_congr_left fun x _=>congrArg (Prod.mk _) (Rat.mul_one _)
theorem Sz.shift1{A:Tm}{s:Qx}(h:Sz A):Sz (Gw A s 1):=by
 rw[tshift_one];exact fun x hx=>z12 (Qg hx) fun y hy e=>e▸h y hy
section
variable{N k:Nat}{σ:Sto}{Φ:Calls}{n na nb nl ns nf:Nat}{T A B F:Tm}{m p a b:Qx}{o:Nat}{bs:List Be}
theorem c_spoly(hN:Big N)(ho:o<3)(hA:σ[na]?=some (.dict (Qy A)))(hB:σ[nb]?=some (.dict (Qy B)))(okA:Ok A)(okB:Ok B)(szA:Sz A)(szB:Sz B)(la:Jk o A=some a)(lb:Jk o B=some b)(ca:co A a=1)(cb:co B b=1)
 (okS:Ok (Gw A (Gu (G9 a b) a) 1)) (okT:Ok (Gw B (Gu (G9 a b) b) 1)):
 ∃τ n',G0 prog N (k+7) 27 [.loc na,.loc nb,.str o] σ=some (.loc n',σ++τ)∧(σ++τ)[n']?=some (.dict (Qy (spoly A B a b))):=by
 refine cps fun qG qK=>?_;refine z11 (c_lead (N:=N) (k:=k+4) (σ:=σ) ho hA la) fun τ1 h1=>?_;refine z11 (c_lead (N:=N) (k:=k+4) (σ:=σ++τ1) ho (Qw hB) lb) fun τ2 h2=>?_;refine z11 (c_join (N:=N) (k:=k+5) (σ:=σ++τ1++τ2) a b) fun τ3 h3=>?_;refine z11 (c_quotient (N:=N) (k:=k+5) (σ:=σ++τ1++τ2++τ3) (Yq a b)) fun τ4 h4=>?_;have h5:=c_rinv (N:=N) (k:=k+3) (σ:=σ++τ1++τ2++τ3++τ4) hN sz_one (by decide);refine z11 (c_mvshift (N:=N) (k:=k+2) (σ:=σ++τ1++τ2++τ3++τ4) (s:=Gu (G9 a b) a) hN (Qw (Qw (Qw (Qw hA)))) okA szA sz_one) fun τ6 h6=>?_;let σ6:Sto:=σ++τ1++τ2++τ3++τ4++τ6++[.dict (Qy (Gw A (Gu (G9 a b) a) 1))];have hl6:σ6[(σ++τ1++τ2++τ3++τ4).length+τ6.length]?=some (.dict (Qy (Gw A (Gu (G9 a b) a) 1))):=by
  exact last2
 refine z11 (c_quotient (N:=N) (k:=k+5) (σ:=σ6) (Yp a b)) fun τ7 h7=>?_;have h8:=c_rinv (N:=N) (k:=k+3) (σ:=σ6++τ7) hN sz_one (by decide);refine z11 (c_mvshift (N:=N) (k:=k+2) (σ:=σ6++τ7) (s:=Gu (G9 a b) b) hN (Qw (Qw (Qw (Qw (Qw (Qw (Qw hB)))))):(σ6++τ7)[nb]?=_) okB szB sz_one) fun τ9 h9=>?_;let σ9:Sto:=σ6++τ7++τ9++[.dict (Qy (Gw B (Gu (G9 a b) b) 1))];obtain⟨τ10,n',h10,h11,_⟩:=c_mvsub (N:=N) (k:=k) (σ:=σ9) (na:=(σ++τ1++τ2++τ3++τ4).length+τ6.length) (nb:=(σ6++τ7).length+τ9.length) hN (Qw (Qw (Qw hl6))) last2 okS okT szA.shift1 szB.shift1;have hpre:∃t,σ9++τ10=σ++t:=Qz (Qz (Qz (Qz (Qz (Qz (Qz (Qz (Qz ⟨τ1,rfl⟩))))))));refine z11 hpre fun t ht=>?_;refine qK ?_;refine⟨t,n',?_,by rw[←ht];exact h11⟩;rw[rinv1]at h5 h8;rw[←ht];exact wF N (k+6) 27 [.loc na,.loc nb,.str o] σ h1 h2 rfl rfl h3 rfl h4 (sub_1.trans (by rw[ca])) h5 h6 rfl h7 (sub_1.trans (by rw[cb])) h8 h9 h10
noncomputable def pV(p:Nat×Nat):V:=.tup [.int (p.1:Int),.int (p.2:Int)]
theorem Yk{L:List Qx}{i:Nat}(h:σ[nl]?=some (.list (L.map mV)))(hi:L[i]?=some a)(hl:L.length≤1000):Jg (.loc nl) (.int (i:Int)) σ=some (mV a):=Y0 h (by rw[Qd,hi];rfl) (by rw[Qi];exact hl)
theorem c_pair_key{L:List Qx}{i j:Nat}(ho:o<3)(h:σ[nl]?=some (.list (L.map mV)))(hi:L[i]?=some a)(hj:L[j]?=some b)(hl:L.length≤1000):
 ∃τ,G0 prog N (k+2) 29 [pV (i,j),.loc nl,.str o] σ=some (.tup [okV o (G9 a b),pV (i,j)],σ++τ):=by
 refine z11 (c_join (N:=N) (k:=k) (σ:=σ) a b) fun τ1 h1=>?_;refine z11 (c_order_key (N:=N) (k:=k) (σ:=σ++τ1) ho (G9 a b)) fun τ2 h2=>⟨τ1++τ2,?_⟩
 rw[←Qb];exact wF N (k+1) 29 [pV (i,j),.loc nl,.str o] σ rfl (Yk h hi hl) rfl (Yk h hj hl) h1 h2
end
abbrev Pr:=Nat×Nat
section
variable{N k:Nat}{σ:Sto}{Φ:Calls}{n na nb nl nw ns nf:Nat}{T A B F:Tm}{m p a b:Qx}{o:Nat}{bs:List Be}
theorem eqL_ints{d:Nat}:∀(a b:List Int),Y8 (eqD (d+1) σ) (a.map V.int) (b.map V.int)=some (decide (a=b))
 |[],[]=>rfl
 |[],_::_|_::_,[]=>rfl
 |x::a,y::b=>by
  show(match some (decide (x=y)),Y8 (eqD (d+1) σ) (a.map V.int) (b.map V.int)with|some b,some c=>some (b&&c)|_,_=>none)=_;rw[eqL_ints a b];exact congrArg some ((Bool.decide_and ..).symm.trans (decide_eq_decide.mpr ⟨fun h=>by rw[h.1,h.2],fun h=>List.cons.inj h⟩))
theorem Ud{d:Nat}(a b:List Int):eqD (d+2) σ (.tup (a.map V.int)) (.tup (b.map V.int))=some (decide (a=b)):=eqL_ints a b
theorem ltL2{o:Bool}{f g:V→V→Option Bool}{x1 x2 y1 y2:V}{b1 b2 r1 r2:Bool}(h1:f x1 y1=some b1)(h2:f x2 y2=some b2)(g1:g x1 y1=some r1)(g2:g x2 y2=some r2):ltList o f g [x1,x2] [y1,y2]=some (cond b1 (cond b2 false r2) r1):=by
 show(f x1 y1).bind (fun c=>cond c ((f x2 y2).bind fun c=>cond c (some false) (g x2 y2)) (g x1 y1))=_;rw[h1,h2,g1,g2];cases b1 with
 |false=>rfl
 |true=>cases b2<;>rfl
theorem pV_ints(p:Pr):pV p=.tup ([(p.1:Int),(p.2:Int)].map V.int):=rfl
theorem ltk_ok(ho:o<3)(x y:Qx)(p q:Pr):∃r,Gy .lt (.tup [okV o x,pV p]) (.tup [okV o y,pV q]) σ=some r:=
 ⟨_,ltL2 (Ud (d:=5) (okI o x) (okI o y)) (Ud (d:=5) [(p.1:Int),(p.2:Int)] [(q.1:Int),(q.2:Int)]) (lexB_ok (d:=5) (okI_len ho x y)) (lexB_ok (d:=5) (l:=[(p.1:Int),(p.2:Int)]) (l':=[(q.1:Int),(q.2:Int)]) rfl)⟩
noncomputable def bP:Option (Qx×Pr)→V
 |none=>.none
 |some x=>pV x.2
noncomputable def bQ(o:Nat):Option (Qx×Pr)→V
 |none=>.none
 |some x=>.tup [okV o x.1,pV x.2]
theorem is_p{p:Pr}:Gy .is (pV p) .none σ=some false:=rfl
noncomputable def lsF(nl o:Nat)(b:Option (Qx×Pr)):AL:=[(20,.loc nl),(0,.str o),(16,bP b),(17,bQ o b)]
theorem least_loop{L:List Qx}{W:List Pr}(ho:o<3)(hne:nw≠nl)(hL:σ[nl]?=some (.list (L.map mV)))(hl:L.length≤1000)(hW:σ[nw]?=some (.list (W.map pV))):∀(R:List Pr) (b:Option (Qx×Pr)) (τ:Sto),(∀p∈R,p.1<L.length∧p.2<L.length)→
 ∃τ' b',RF (G0 prog N (k+2)) N (sL nw (W.map pV)) (.one 32) (bo 31 [1]) (R.map pV) (lsF nl o b) (σ.set nw (.ro (W.map pV))++τ) .next (lsF nl o b') (σ++τ')∧(∀x,b'=some x→b=some x∨x.2∈R)∧(b'=none→R=[]∧b=none)
 |[],b,τ,hR=>⟨τ,b,RF.nil (Jn (Qw (G7 hW))) (free_ro hW),fun x hx=>.inl hx,fun h=>⟨rfl,h⟩⟩
 |(i,j)::R,b,τ,hR=>by
  refine zA2 (hR (i,j) (.head _)) fun hi hj=>?_;refine z11 (c_pair_key (N:=N) (k:=k) (σ:=σ.set nw (.ro (W.map pV))++τ) ho (Qw (Gr hL hne)) (Qe hi) (Qe hj) hl) fun τ1 hk=>?_;rw[Qb]at hk;have step:∀b1 fr2,QB (G0 prog N (k+2)) N (bo 31 [1]) (stf (lsF nl o b) 32 (pV (i,j))) (σ.set nw (.ro (W.map pV))++τ) .next fr2 (σ.set nw (.ro (W.map pV))++(τ++τ1))→sl fr2 [20,0,16,17]=lsF nl o b1→(∀x,b1=some x→b=some x∨x.2∈(i,j)::R)→b1≠none→
   ∃τ' b',RF (G0 prog N (k+2)) N (sL nw (W.map pV)) (.one 32) (bo 31 [1]) (((i,j)::R).map pV) (lsF nl o b) (σ.set nw (.ro (W.map pV))++τ) .next (lsF nl o b') (σ++τ')∧(∀x,b'=some x→b=some x∨x.2∈(i,j)::R)∧(b'=none→(i,j)::R=[]∧b=none):=fun b1 fr2 hb hs h1 h2=>
   z23 (least_loop ho hne hL hl hW R b1 (τ++τ1) fun p hp=>hR p (.tail _ hp)) fun τ' b' e1 e3 e4=>⟨τ',b',RF.cons (Jn (Qw (G7 hW))) rfl hb trivial [20,0,16,17] (hs▸e1),fun x hx=>(e3 x hx).elim (h1 x) fun h=>.inr (.tail _ h),fun h=>absurd (e4 h).2 h2⟩
  have new:∀x,some (G9 L[i] L[j],(i,j))=some x→b=some x∨x.2∈(i,j)::R:=fun x hx=>.inr (Option.some.inj hx▸ .head _);cases b with
  |none=>exact step (some (G9 L[i] L[j],(i,j))) _ (wB _ N (bo 31 [1]) [(20,.loc nl),(0,.str o),(16,.none),(17,.none),(32,pV (i,j))] _ hk is_n rfl rfl) rfl new (fun h=>nomatch h)
  |some y=>
   refine z11 (ltk_ok (σ:=σ.set nw (.ro (W.map pV))++(τ++τ1)) ho (G9 L[i] L[j]) y.1 (i,j) y.2) fun r hr=>?_;cases r with
   |true=>exact step (some (G9 L[i] L[j],(i,j))) _ (wB _ N (bo 31 [1]) [(20,.loc nl),(0,.str o),(16,pV y.2),(17,.tup [okV o y.1,pV y.2]),(32,pV (i,j))] _ hk is_p rfl hr rfl) rfl new (fun h=>nomatch h)
   |false=>exact step (some y) _ (wB _ N (bo 31 [1]) [(20,.loc nl),(0,.str o),(16,pV y.2),(17,.tup [okV o y.1,pV y.2]),(32,pV (i,j))] _ hk is_p rfl hr rfl) rfl (fun x hx=>.inl hx) (fun h=>nomatch h)
theorem c_least{L:List Qx}{W:List Pr}(ho:o<3)(hne:nw≠nl)(hL:σ[nl]?=some (.list (L.map mV)))(hl:L.length≤1000)(hW:σ[nw]?=some (.list (W.map pV)))(hR:∀p∈W,p.1<L.length∧p.2<L.length)(h0:W≠[]):
 ∃τ p,p∈W∧G0 prog N (k+3) 31 [.loc nw,.loc nl,.str o] σ=some (pV p,σ++τ):=by
 refine z23 (least_loop (N:=N) (k:=k) ho hne hL hl hW W none [] hR) fun τ' b' e1 e3 e4=>?_;rw[Qp]at e1;cases b' with
 |none=>exact absurd (e4 rfl).1 h0
 |some x=>exact⟨τ',x.2,(e3 x rfl).resolve_left (fun h=>nomatch h),wF N (k+2) 31 [.loc nw,.loc nl,.str o] σ (RF.for (wE _ (.var 33) [(33,.loc nw),(20,.loc nl),(0,.str o),(16,.none),(17,.none)] σ) (lsrc_ok hW) [20,0,16,17] e1)⟩
theorem pr_cast{p q:Pr}:([(p.1:Int),(p.2:Int)]=[(q.1:Int),(q.2:Int)])↔q=p:=
 ⟨fun h=>Prod.ext (Int.ofNat.inj (List.cons.inj h).1).symm (Int.ofNat.inj (List.cons.inj (List.cons.inj h).2).1).symm,fun h=>h▸rfl⟩
theorem in_pairs{W:List Pr}{p:Pr}:Ze (eqD 8 σ) (pV p) (W.map pV)=some (decide (p∈W)):=by
 induction W with
 |nil=>exact congrArg some (decide_eq_false (List.not_mem_nil)).symm
 |cons q W ih=>
  have he:eqD 8 σ (pV q) (pV p)=some (decide (p=q)):=(Ud (d:=6) [(q.1:Int),(q.2:Int)] [(p.1:Int),(p.2:Int)]).trans (congrArg some (decide_eq_decide.mpr pr_cast));show(match eqD 8 σ (pV q) (pV p),Ze (eqD 8 σ) (pV p) (W.map pV)with
   |some b,some c=>some (b||c)
   |_,_=>none)=_
  rw[he,ih];exact congrArg some ((Bool.decide_or ..).symm.trans (decide_eq_decide.mpr List.mem_cons.symm))
end
noncomputable def mnp(i t:Nat):Pr:=(min i t,max i t)
noncomputable def Chain(W:List Pr)(L:List Qx)(i j:Nat)(jo:Qx)(t:Nat):Prop:=∃l,L[t]?=some l∧t≠i∧t≠j∧Gf l jo=true∧mnp i t∉W∧mnp j t∉W
section
variable{N k:Nat}{σ:Sto}{Φ:Calls}{n na nb nl nw ns nf:Nat}{T A B F:Tm}{m p a b:Qx}{o:Nat}{bs:List Be}
theorem in_two{x i j:Nat}:Gy .isin (.int (x:Int)) (pV (i,j)) σ=some (decide (x=i∨x=j)):=by
 have e:∀a b:Int,eqD 8 σ (.int a) (.int b)=some (decide (a=b)):=fun _ _=>rfl;show some (decide ((i:Int)=x)||(decide ((j:Int)=x)||false))=_;rw[Bool.or_false,decide_eq_decide.mpr (Int.natCast_inj.trans eq_comm),decide_eq_decide.mpr (Int.natCast_inj.trans eq_comm),←Bool.decide_or]
theorem notin_ok{W:List Pr}(p:Pr)(h:σ[nw]?=some (.list (W.map pV))):Gy .notIn (pV p) (.loc nw) σ=some (!decide (p∈W)):=by
 have e:memb (pV p) (.loc nw) σ=some (decide (p∈W)):=by unfold memb;dsimp only;rw[h];exact in_pairs
 show(memb (pV p) (.loc nw) σ).map _=_;rw[e];rfl
theorem min_prim(i t:Nat):Jd .min [.int (i:Int),.int (t:Int)] σ=some (.int ((min i t:Nat):Int),σ):=min2_ok.trans (by rw[min_cast])
theorem max_prim(i t:Nat):Jd .max [.int (i:Int),.int (t:Int)] σ=some (.int ((max i t:Nat):Int),σ):=max_ok.trans (by rw[max_cast])
noncomputable def nF(i j:Nat)(jo:Qx)(nw:Nat):AL:=[(32,pV (i,j)),(2,.int (i:Int)),(30,.int (j:Int)),(31,mV jo),(33,.loc nw)]
theorem n_t{p:Prop}[Decidable p](h:p):(!decide p)=false:=by rw[decide_eq_true h];rfl
theorem needless_loop{L:List Qx}{W:List Pr}{i j:Nat}{jo:Qx}(hne:nw≠nl)(hL:σ[nl]?=some (.list (L.map mV)))(hW:σ[nw]?=some (.list (W.map pV))):∀(R:List Qx) (t:Nat),(∀s,R[s]?=L[t+s]?)→
 ∃fl fr',RF (G0 prog N (k+1)) N (sE nl (L.map mV)) (.many [5,1]) (bo 30 [3]) (Uj t (R.map mV)) (nF i j jo nw) (σ.set nl (.ro (L.map mV))) fl fr' σ∧(fl=.next∨(fl=.ret (.bool true)∧∃t,Chain W L i j jo t))
 |[],t,hR=>⟨_,_,RF.nil (Jn (G7 hL)) (show(σ.set nl _).set nl _=σ by rw[List.set_set,Zn hL]),.inl rfl⟩
 |l::R,t,hR=>by
  have hl:L[t]?=some l:=(hR 0).symm;have hR':∀s,R[s]?=L[t+1+s]?:=fun s=>by rw[Nat.add_assoc,Nat.add_comm 1];exact hR (s+1)
  have hWW:(σ.set nl (.ro (L.map mV)))[nw]?=some (.list (W.map pV)):=Gr hW (Ne.symm hne);have hdv:=c_divides (N:=N) (k:=k) (σ:=σ.set nl (.ro (L.map mV))) l jo;refine z22 (needless_loop hne hL hW (i:=i) (j:=j) (jo:=jo) R (t+1) hR') fun fl fr' ih hf=>?_;have go:∀{f1 fr2},QB (G0 prog N (k+1)) N (bo 30 [3]) [(32,pV (i,j)),(2,.int (i:Int)),(30,.int (j:Int)),(31,mV jo),(33,.loc nw),(5,.int (t:Int)),(1,mV l)] (σ.set nl (.ro (L.map mV))) f1 fr2 (σ.set nl (.ro (L.map mV)))→f1.on→sl fr2 [32,2,30,31,33]=nF i j jo nw→
   ∃fl fr',RF (G0 prog N (k+1)) N (sE nl (L.map mV)) (.many [5,1]) (bo 30 [3]) (Uj t ((l::R).map mV)) (nF i j jo nw) (σ.set nl (.ro (L.map mV))) fl fr' σ∧(fl=.next∨(fl=.ret (.bool true)∧∃t,Chain W L i j jo t)):=fun hb ho hs=>⟨fl,fr',RF.cons (Jn (G7 hL)) rfl hb ho [32,2,30,31,33] (hs▸ih),hf⟩
  by_cases ht:t=i∨t=j
  ·exact go (wB _ N (bo 30 [3]) [(32,pV (i,j)),(2,.int (i:Int)),(30,.int (j:Int)),(31,mV jo),(33,.loc nw),(5,.int (t:Int)),(1,mV l)] _ in_two (decide_eq_true ht) rfl) trivial rfl
  cases hd:Gf l jo with
  |false=>
   rw[hd]at hdv;exact go (wB _ N (bo 30 [3]) [(32,pV (i,j)),(2,.int (i:Int)),(30,.int (j:Int)),(31,mV jo),(33,.loc nw),(5,.int (t:Int)),(1,mV l)] _ in_two (decide_eq_false ht) hdv rfl) trivial rfl
  |true=>
   rw[hd]at hdv;by_cases h1:mnp i t∈W
   ·exact go (wB _ N (bo 30 [3]) [(32,pV (i,j)),(2,.int (i:Int)),(30,.int (j:Int)),(31,mV jo),(33,.loc nw),(5,.int (t:Int)),(1,mV l)] _ in_two (decide_eq_false ht) hdv rfl (min_prim i t) (max_prim i t) (notin_ok (mnp i t) hWW) (n_t h1) rfl) trivial rfl
   by_cases h3:mnp j t∈W
   ·exact go (wB _ N (bo 30 [3]) [(32,pV (i,j)),(2,.int (i:Int)),(30,.int (j:Int)),(31,mV jo),(33,.loc nw),(5,.int (t:Int)),(1,mV l)] _ in_two (decide_eq_false ht) hdv rfl (min_prim i t) (max_prim i t) (notin_ok (mnp i t) hWW) (nd h1) (min_prim j t) (max_prim j t) (notin_ok (mnp j t) hWW) (n_t h3)) trivial rfl
   ·exact⟨_,_,RF.ret (Jn (G7 hL)) rfl (wB _ N (bo 30 [3]) [(32,pV (i,j)),(2,.int (i:Int)),(30,.int (j:Int)),(31,mV jo),(33,.loc nw),(5,.int (t:Int)),(1,mV l)] _ in_two (decide_eq_false ht) hdv rfl (min_prim i t) (max_prim i t) (notin_ok (mnp i t) hWW) (nd h1) (min_prim j t) (max_prim j t) (notin_ok (mnp j t) hWW) (nd h3)) (Jn (G7 hL)) (show(σ.set nl _).set nl _=σ by rw[List.set_set,Zn hL]),.inr ⟨rfl,t,l,hl,fun e=>ht (.inl e),fun e=>ht (.inr e),hd,h1,h3⟩⟩
theorem c_needless{L:List Qx}{W:List Pr}{i j:Nat}(hne:nw≠nl)(hL:σ[nl]?=some (.list (L.map mV)))(hl:L.length≤1000)(hW:σ[nw]?=some (.list (W.map pV)))(hi:L[i]?=some a)(hj:L[j]?=some b):
 ∃τ r,G0 prog N (k+3) 30 [pV (i,j),.loc nw,.loc nl] σ=some (.bool r,σ++τ)∧(r=true→(Y3 a b).1+(Y3 a b).2=0∨∃t,Chain W L i j (G9 a b) t)∧(r=false→(Y3 a b).1+(Y3 a b).2≠0):=by
 refine z11 (c_apart (N:=N) (k:=k) (σ:=σ) a b) fun τ1 h1=>?_;by_cases hap:(Y3 a b).1+(Y3 a b).2=0
 ·exact⟨τ1,true,wF N (k+2) 30 [pV (i,j),.loc nw,.loc nl] σ (Yk hL hi hl) (Yk hL hj hl) h1 (decide_eq_true hap),fun _=>.inl hap,fun h=>nomatch h⟩
 ·refine z11 (c_join (N:=N) (k:=k+1) (σ:=σ++τ1) a b) fun τ2 h2=>?_;refine z22 (needless_loop (N:=N) (k:=k+1) (σ:=σ++τ1++τ2) (i:=i) (j:=j) (jo:=G9 a b) hne (Qw (Qw hL)) (Qw (Qw hW)) L 0 (fun s=>by rw[Nat.zero_add])) fun fl fr' e1 e2=>?_;have e3:=RF.for (wE _ (.var 20) [(32,pV (i,j)),(33,.loc nw),(20,.loc nl),(2,.int (i:Int)),(30,.int (j:Int)),(31,mV (G9 a b))] (σ++τ1++τ2)) (esrc_ok (Qw (Qw hL))) [32,2,30,31,33] e1;rw[Qb]at e3;have h2':=h2;rw[Qb]at h2';rcases e2 with rfl|⟨rfl,hch⟩
  ·exact⟨τ1++τ2,false,wF N (k+2) 30 [pV (i,j),.loc nw,.loc nl] σ (Yk hL hi hl) (Yk hL hj hl) h1 (decide_eq_false hap) (Yk (Qw hL) hi hl) (Yk (Qw hL) hj hl) h2' e3,fun h=>(nomatch h),fun _=>hap⟩
  ·exact⟨τ1++τ2,true,wF N (k+2) 30 [pV (i,j),.loc nw,.loc nl] σ (Yk hL hi hl) (Yk hL hj hl) h1 (decide_eq_false hap) (Yk (Qw hL) hi hl) (Yk (Qw hL) hj hl) h2' e3,fun _=>.inr hch,fun h=>nomatch h⟩
end
abbrev PG:=Tm×Qx
noncomputable def gm(b:Be):PG:=(b.G,b.m)
noncomputable def mkB(gs:List PG):List Be:=gs.map fun g=>⟨0,g.1,g.2⟩
theorem Jz.change{o:Nat}{bs bs':List Be}(h:bs.map gm=bs'.map gm){left rest:Tm}{n:Nat}{r:Tm}(run:Jz o bs left rest n r):Jz o bs' left rest n r:=by
 have hm:bs.map (·.m)=bs'.map (·.m):=show bs.map (Prod.snd∘gm)=bs'.map (Prod.snd∘gm)from by rw[←List.map_map,←List.map_map,h]
 induction run with
 |done rest=>exact .done rest
 |keep ok szL hl hd hlt _ ih=>exact .keep ok szL hl (hm▸hd) hlt ih
 | @step left rest m n r i b ok szL hl hd hb okS szS hlt _ ih=>
  have:(bs'.map gm)[i]?=some (gm b):=by rw[←h,Qd,hb];rfl
  rw[Qd]at this;refine z12 (Qo this) fun b' hb' e=>?_;have e1:b'.G=b.G:=congrArg Prod.fst e;have e2:b'.m=b.m:=congrArg Prod.snd e;exact .step (b:=b') ok szL hl (hm▸hd) hb' (by rw[e1,e2];exact okS) (by rw[e1,e2];exact szS) (by unfold dstep;rw[e1,e2];exact hlt) (by unfold dstep;rw[e1,e2];exact ih)
theorem mkB_gm(gs:List PG):(mkB gs).map gm=gs:=List.map_map.trans (List.map_id gs)
structure InAt(o:Nat)(fs:List Be)(ns:Nat)(σ:Sto):Prop where
 lst:σ[ns]?=some (.list (fs.map fun b=>.loc b.p))
 at_:∀b∈fs,σ[b.p]?=some (.dict (Qy b.G))
 ok:∀b∈fs,Ok b.G
 szG:∀b∈fs,Sz b.G
 ld:∀b∈fs,Jk o b.G=some b.m
 szi:∀b∈fs,sz (co b.G b.m)⁻¹
 len:fs.length≤50
noncomputable def Y2(b:Be):PG:=(Gv b.G (co b.G b.m)⁻¹,b.m)
section
variable{N k:Nat}{σ:Sto}{Φ:Calls}{n na nb nl nw ns nf:Nat}{T A B F:Tm}{m p a b:Qx}{o:Nat}{bs:List Be}
theorem tlead_pos{A:Tm}(h:Jk o A=some m):0<A.length:=len_keys▸List.length_pos_of_mem (Go h).1
theorem acc1{α:Type}{acc:List α}{x:α}{n:Nat}(h:acc.length+(n+1)≤1000):(acc++[x]).length+n≤1000:=by
 rw[Q8,Nat.add_assoc,Nat.add_comm [x].length];exact h
theorem acc0{n m:Nat}(h:n+(m+1)≤1000):n<1000:=Nat.lt_of_lt_of_le (Nat.lt_add_of_pos_right (Nat.succ_pos _)) h
noncomputable def lp(fs:List Be):List V:=fs.map fun b=>V.loc b.p
theorem monic_loop(hN:Big N)(ho:o<3){fs:List Be}(H:InAt o fs ns σ){fr:AL}(h0:∀x,lk (stf (erf fr [2]) 2 x) 0=some (.str o)):∀(R:List Be) (acc:List V) (τ:Sto),(∀b∈R,b∈fs)→acc.length+R.length≤1000→
 ∃(bs:List Be) (τ':Sto),(∀ρ,Has ρ fr→J3 (sL ns (lp fs)) (lT (G0 prog N (k+5)) (.call 23 (.cons (.var 2) (.cons (.var 0) .nil))) (.one 2) (.yes (.cmp .gt (.prim .len (.cons (.var 2) .nil)) (.int 0))) ρ)
  (lp R) acc (σ.set ns (.ro (lp fs))++τ)=some (acc++lp bs,σ++(τ++τ')))∧bs.map gm=R.map Y2∧∀b∈bs,σ.length≤b.p∧(τ++τ')[b.p-σ.length]?=some (.dict (Qy b.G))
 |[],acc,τ,hs,hl=>⟨[],[],fun ρ _=>by
  show _=some (acc++[],_);rw[Qp,Qp];exact Ug (Jn (Qw (G7 H.lst))) (free_ro H.lst),rfl,fun b hb=>nomatch hb⟩
 |f::R,acc,τ,hs,hl=>by
  have hf:f∈fs:=hs f (.head _);have hat:(σ.set ns (.ro (lp fs))++τ)[f.p]?=some (.dict (Qy f.G)):=Qw (Jf H.lst (H.at_ f hf));refine z23 (c_monic (N:=N) (k:=k) hN ho hat (H.ok f hf) (H.szG f hf) (H.ld f hf) (H.szi f hf)) fun τ1 n' e1 e2 e3=>?_;rw[Qb]at e1 e2;have hsl:(σ.set ns (.ro (lp fs))).length=σ.length:=List.length_set;have hn:σ.length≤n':=Nat.le_trans (by rw[Q8,hsl];exact Nat.le_add_right _ _) e3;refine z23 (monic_loop hN ho H h0 R (acc++[V.loc n']) (τ++τ1) (fun b hb=>hs b (.tail _ hb)) (acc1 hl)) fun bs τ2 g1 g2 g3=>⟨⟨n',Gv f.G (co f.G f.m)⁻¹,f.m⟩::bs,τ1++τ2,?_⟩
  rw[Qb]at g1 g3;refine⟨fun ρ Hr=>Js (Jn (Qw (G7 H.lst))) (RT.yes rfl (RE.two Jq (h0 _) (wE (G0 prog N (k+5)) (.cmp .gt (.prim .len (.cons (.var 2) .nil)) (.int 0)) [(2,.loc f.p),(0,.str o)] _ (U7 hat (Nat.lt_of_le_of_lt (H.ok f hf).len (by decide))))) (decide_eq_true (Int.ofNat_lt.mpr (tlead_pos (H.ld f hf)))) (RE.two Jq (h0 _) (wE _ (.call 23 (.cons (.var 2) (.cons (.var 0) .nil))) [(2,.loc f.p),(0,.str o)] _ e1)) (Yw (acc0 hl)) ρ Hr) ((g1 ρ Hr).trans (by rw[Qb];rfl)),by rw[Q7,g2];rfl,?_⟩
  ·intro b hb;rcases Q5 hb with rfl|hb
   ·refine⟨hn,?_⟩;rw[List.getElem?_append_right (hsl▸hn),hsl]at e2;rw[←Qb];exact Qw e2
   ·exact g3 b hb
theorem Z5(ho:o<3)(H:Gj o bs ns σ){fr:AL}{it:Ex}(hit:RE (G0 prog N (k+2)) it fr σ (.loc ns) σ)(h0:∀x,lk (stf (erf fr [2]) 2 x) 0=some (.str o)):∃τ,RE (G0 prog N (k+2)) (.lcomp (.sub (.call 22 (.cons (.var 2) (.cons (.var 0) .nil))) (.int 0)) (.one 2) .plain it .no) fr σ (.loc (σ++τ).length) (σ++τ++[.list ((bs.map (·.m)).map mV)]):=by
 rw[List.map_map];refine RE.am (iv:=fun b:Be=>V.loc b.p) _ hit H.lst (Nat.le_trans H.len (by decide)) fun b hb acc τ ha=>?_;refine z11 (c_lead (N:=N) (k:=k) (σ:=σ.set ns (.ro (bs.map fun b=>V.loc b.p))++τ) (na:=b.p) ho (Qw (Jf H.lst (H.at_ b hb))) (H.ld b hb)) fun τ1 h1=>⟨τ++τ1,?_⟩
 rw[Qb]at h1;exact RT.one rfl (RE.two Jq (h0 _) (wE _ (.sub (.call 22 (.cons (.var 2) (.cons (.var 0) .nil))) (.int 0)) [(2,.loc b.p),(0,.str o)] _ h1 rfl)) (Yw ha)
noncomputable def initW(n:Nat):List Pr:=(List.range n).flatMap fun j=>(List.range j).map fun i=>(i,j)
noncomputable def wE0:Ex:=.tup (.cons (.var 2) (.cons (.var 30) .nil))
theorem wait_in{j:Nat}{ρ:Fr}(h30:ρ 30=some (.int (j:Int))){items:List V}:∀(R:List Nat) (acc:List V),acc.length+R.length≤1000→
 J3 ⟨items,none,none⟩ (l2I Φ wE0 2 ρ) (R.map fun i=>V.int (Int.ofNat i)) acc σ=some (acc++(R.map fun i=>pV (i,j)),σ)
 |[],acc,_=>by rw[Qm,Qm,Qp];exact Ug rfl rfl
 |i::R,acc,h=>Js rfl (bnI (wE Φ wE0 [(2,.int (i:Int)),(30,.int (j:Int))] σ _ (Has.two rfl h30)) (if_pos (Yw (acc0 h)))) ((wait_in h30 R (acc++[pV (i,j)]) (acc1 h)).trans (by rw[Qb];rfl))
theorem rsrc_ok{j:Nat}(h:j<1000):Gx .range (.int (j:Int)) σ=some (⟨Zc j,none,none⟩,σ):=by
 have hb:(0:Int)≤(j:Int)∧(j:Int)<100000:=⟨Int.natCast_nonneg j,Int.lt_trans (Int.ofNat_lt.mpr h) (by decide)⟩
 unfold Gx;dsimp only;rw[if_pos hb,Int.toNat_natCast]
theorem wait_out{ρ:Fr}{items:List V}:∀(R:List Nat) (acc:List V),acc.length+20*R.length≤1000→(∀j∈R,j≤20)→
 J3 ⟨items,none,none⟩ (l2T Φ wE0 30 2 .range (.var 30) ρ) (R.map fun i=>V.int (Int.ofNat i)) acc σ=some (acc++(R.flatMap fun j=>(List.range j).map fun i=>(i,j)).map pV,σ)
 |[],acc,_,_=>by rw[Qm,List.flatMap_nil,Qm,Qp];exact Ug rfl rfl
 |j::R,acc,h,hj=>by
  have hj0:=hj j (.head _);have h:acc.length+(20*R.length+20)≤1000:=h;have hl:acc.length+j≤1000:=Nat.le_trans (Nat.add_le_add_left (Nat.le_trans hj0 (Nat.le_add_left _ _)) _) h;have e:=wait_in (Φ:=Φ) (σ:=σ) (j:=j) (ρ:=upd (drp ρ [30,2]) 30 (.int (Int.ofNat j))) rfl (items:=Zc j) (List.range j) acc (by rw[List.length_range];exact hl);refine Js rfl (bnI (a:=(V.int (j:Int),σ)) rfl (bnI (rsrc_ok (Nat.lt_of_le_of_lt hj0 (by decide))) e)) ((wait_out R _ ?_ (fun i hi=>hj i (.tail _ hi))).trans ?_)
  ·rw[Q8,Qi,List.length_range,Nat.add_assoc];exact Nat.le_trans (Nat.add_le_add_left (Nat.le_trans (Nat.add_le_add_right hj0 _) (Nat.le_of_eq (Nat.add_comm _ _))) _) h
  ·rw[List.flatMap_cons,Qr,List.map_map,Qb];rfl
end
noncomputable def PG1(o:Nat)(g:PG):Prop:=Ok g.1∧Sz g.1∧Jk o g.1=some g.2∧co g.1 g.2=1
noncomputable def flt(W:List Pr)(p:Pr):List Pr:=W.filter fun q=>decide (q≠p)
noncomputable def newW(n:Nat):List Pr:=(List.range n).map fun i=>(i,n)
structure GNew(o:Nat)(r:Tm)(X:Qx→Prop)(m:Qx):Prop where
 lead:Jk o r=some m
 ok:Ok r
 szr:Sz r
 szi:sz (co r m)⁻¹
 pg:PG1 o (Gv r (co r m)⁻¹,m)
 next:X m
structure GRed(o:Nat)(gs:List PG)(g1 g2:PG)(X:Prop)(Y:Tm→Qx→Prop)(nd:Nat)(r:Tm):Prop where
 run:Jz o (mkB gs) (spoly g1.1 g2.1 g1.2 g2.2) [] nd r
 le:nd≤800
 nil:r=[]→X
 new:r≠[]→∃m,GNew o r (Y r) m
structure GPair(o:Nat)(gs:List PG)(W:List Pr)(i j:Nat)(X:Prop)(Y:Tm→Qx→Prop)(g1 g2:PG):Prop where
 fst:gs[i]?=some g1
 snd:gs[j]?=some g2
 need:((Y3 g1.2 g2.2).1+(Y3 g1.2 g2.2).2=0∨∃t,Chain (flt W (i,j)) (gs.map (·.2)) i j (G9 g1.2 g2.2) t)→X
 sec:(Y3 g1.2 g2.2).1+(Y3 g1.2 g2.2).2≠0→Ok (Gw g1.1 (Gu (G9 g1.2 g2.2) g1.2) 1)∧Ok (Gw g2.1 (Gu (G9 g1.2 g2.2) g2.2) 1)∧Ok (spoly g1.1 g2.1 g1.2 g2.2)∧∃nd r,GRed o gs g1 g2 X Y nd r
noncomputable def GOk(o:Nat)(P:List PG→Prop):Nat→List PG→List Pr→Prop
 |0,gs,W=>W=[]∧P gs
 |n+1,gs,W=>(W=[]∧P gs)∨(W≠[]∧gs.length≤20∧W.length≤200∧∀i j,(i,j)∈W→∃g1 g2,GPair o gs W i j (GOk o P n gs (flt W (i,j))) (fun r m=>GOk o P n (gs++[(Gv r (co r m)⁻¹,m)]) (flt W (i,j)++newW gs.length)) g1 g2)
noncomputable def grTest:Ex:=.cmp .gt (.prim .len (.cons (.var 33) .nil)) (.int 0)
theorem flat_filter{α β:Type}(p:α→Bool)(f:α→β)(l:List α):(l.flatMap fun x=>cond (p x) [f x] [])=(l.filter p).map f:=by
 induction l with
 |nil=>rfl
 |cons x r ih=>
  rw[List.flatMap_cons,ih,List.filter_cons];cases p x<;>rfl
section
variable{N k:Nat}{σ:Sto}{Φ:Calls}{n na nb nl nw ns nf:Nat}{T A B F:Tm}{m p a b:Qx}{o:Nat}{bs:List Be}
theorem nep_ok{p q:Pr}:Gy .ne (pV p) (pV q) σ=some (decide (p≠q)):=by
 show(eqD 8 σ (pV p) (pV q)).map (!·)=_;rw[pV_ints,pV_ints,Ud,decide_eq_decide.mpr pr_cast];exact congrArg some ((decide_not ..).symm.trans (decide_eq_decide.mpr ⟨fun h e=>h e.symm,fun h e=>h e.symm⟩))
theorem cond_len{α:Type}{b:Bool}{x:α}:(cond b [x] []).length≤1:=by
 cases b with
 |false=>exact Nat.zero_le _
 |true=>exact Qs _
theorem filter_gen{α:Type}[DecidableEq α]{iv:α→V}{W:List α}{q:α}{v:Nat}{it:Ex}{σ0:Sto}(hne:∀{p:α} {σ:Sto},Gy .ne (iv p) (iv q) σ=some (decide (p≠q)))(hW:σ[nw]?=some (.list (W.map iv)))(hl:W.length≤1000){fr:AL}(hit:RE Φ it fr σ0 (.loc nw) σ)(hv:∀x,lk (stf (erf fr [2]) 2 x) v=some (iv q)):
 ∃τ,RE Φ (.lcomp (.var 2) (.one 2) .plain it (.yes (.cmp .ne (.var 2) (.var v)))) fr σ0 (.loc (σ++τ).length) (σ++τ++[.list ((W.filter fun p=>decide (p≠q)).map iv)]):=by
 rw[←flat_filter];refine RE.al hit hW hl (fun p _=>cond_len) fun p hp acc τ ha=>⟨τ,?_⟩
 have c:RE Φ (.cmp .ne (.var 2) (.var v)) (stf (erf fr [2]) 2 (iv p)) (σ.set nw (.ro (W.map iv))++τ) (.bool (decide (p≠q))) (σ.set nw (.ro (W.map iv))++τ):=fun ρ H=>bnI (bnI (H 2 _ Jq) rfl) (bnI (bnI (H v _ (hv _)) rfl) (bnI hne rfl));cases h:decide (p≠q)with
 |true=>exact RT.yes rfl c h (fun ρ H=>bnI (H 2 _ Jq) rfl) (Yw ha)
 |false=>exact(Qp acc).symm▸RT.skip rfl c h
theorem filter_loop{W:List Pr}{q:Pr}(hW:σ[nw]?=some (.list (W.map pV)))(hl:W.length≤1000){fr:AL}(h33:lk fr 33=some (.loc nw))(h32:∀x,lk (stf (erf fr [2]) 2 x) 32=some (pV q)):
 ∃τ,RE Φ (.lcomp (.var 2) (.one 2) .plain (.var 33) (.yes (.cmp .ne (.var 2) (.var 32)))) fr σ (.loc (σ++τ).length) (σ++τ++[.list ((flt W q).map pV)]):=filter_gen nep_ok hW hl (fun ρ H=>bnI (H 33 _ h33) rfl) h32
noncomputable def nE:Ex:=.tup (.cons (.var 5) (.cons (.prim .len (.cons (.var 35) .nil)) .nil))
theorem new_loop{xs:List V}(hB:σ[nb]?=some (.list xs))(hl:xs.length≤100){fr:AL}(h35:lk fr 35=some (.loc nb))(h:∀x,lk (stf (erf fr [5]) 5 x) 35=some (.loc nb)):
 RE Φ (.lcomp nE (.one 5) .range (.prim .len (.cons (.var 35) .nil)) .no) fr σ (.loc σ.length) (σ++[.list ((newW xs.length).map pV)]):=by
 have hx:xs.length<1000:=Nat.lt_of_le_of_lt hl (by decide);have key:∀(R:List Nat) (acc:List V),acc.length+R.length≤1000→∀ρ,Has ρ fr→J3 ⟨Zc xs.length,none,none⟩ (lT Φ nE (.one 5) .no ρ) (R.map fun i=>V.int (Int.ofNat i)) acc σ=some (acc++(R.map fun i=>(i,xs.length)).map pV,σ):=by
  intro R;induction R with
  |nil=>exact fun acc _ ρ _=>by rw[Qm,Qm,Qm,Qp];exact Ug rfl rfl
  |cons i R ih=>exact fun acc hl ρ Hr=>Js rfl (RT.one rfl (RE.two Jq (h _) (wE Φ nE [(5,.int (i:Int)),(35,.loc nb)] σ (Jr hB hx))) (Yw (acc0 hl)) ρ Hr) ((ih (acc++[pV (i,xs.length)]) (acc1 hl) ρ Hr).trans (by rw[Qb];rfl))
 exact RE.lc (RE.two h35 h35 (wE Φ (.prim .len (.cons (.var 35) .nil)) [(35,.loc nb),(35,.loc nb)] σ (Jr hB hx))) (rsrc_ok hx) (key (List.range xs.length) [] (by rw[List.length_range,Qk,Nat.zero_add];exact Nat.le_of_lt hx))
theorem l5000{n:Nat}(h:n<5000):n<lim:=Nat.lt_trans h (by decide)
theorem mL{mt:Meth}{l vs:List V}(h:σ[n]?=some (.list l)):Ji mt (.loc n) vs σ=methL mt n l vs σ:=bnI (x:=(V.loc n).asL) rfl (bnI h rfl)
theorem Ye{xs:List V}{x:V}(h:σ[n]?=some (.list xs))(hl:xs.length<5000):Ji .append (.loc n) [x] σ=some (.none,σ.set n (.list (xs++[x]))):=(mL h).trans (if_pos (l5000 hl))
theorem extend_ok{xs ys:List V}{j:Nat}(h:σ[n]?=some (.list xs))(h2:σ[j]?=some (.list ys))(hne:j≠n)(hl:xs.length+ys.length<5000):Ji .extend (.loc n) [.loc j] σ=some (.none,σ.set n (.list (xs++ys))):=
 (mL h).trans (show((σ[j]?.bind Ob.asLst).bind fun r=>if j≠n∧xs.length+r.length<lim then some (V.none,σ.set n (.list (xs++r)))else none)=_ by rw[h2];exact if_pos ⟨hne,l5000 hl⟩)
theorem kind_list{xs:List V}(h:σ[n]?=some (.list xs)):Yg σ (.loc n)=1:=by unfold Yg;dsimp only;rw[h]
theorem kind2{xs ys:List V}{σ':Sto}(h:σ[n]?=some (.list xs))(h2:σ'[n]?=some (.list ys)):Yg σ (.loc n)=Yg σ' (.loc n):=(kind_list h).trans (kind_list h2).symm
theorem G8{xs:List V}{es:List (List Int×V)}{ob:Ob}(h1:σ[n]?=some (.list xs))(h2:σ[na]?=some (.dict es)):(σ.set n ob)[na]?=some (.dict es):=Gr h2 (ld_ne h1 h2)
noncomputable def gF(o nb nl nw dn:Nat):AL:=[(35,.loc nb),(20,.loc nl),(33,.loc nw),(0,.str o),(28,.int 40),(36,.int (dn:Int))]
structure GI(o:Nat)(σ:Sto)(gs:List PG)(W:List Pr)(bs:List Be)(nb nl nw:Nat)(σ':Sto):Prop where
 pre:∃τ,σ'=σ++τ
 bas:Gj o bs nb σ'
 gs_:bs.map gm=gs
 lds:σ'[nl]?=some (.list ((gs.map (·.2)).map mV))
 wat:σ'[nw]?=some (.list (W.map pV))
 gb:σ.length≤nb
 gl:σ.length≤nl
 gw:σ.length≤nw
 d1:nb≠nl
 d2:nb≠nw
 d3:nw≠nl
 rng:∀p∈W,p.1<gs.length∧p.2<gs.length
abbrev GEnd(N k o:Nat)(P:List PG→Prop)(nb nl nw dn fuel:Nat)(σ σ':Sto):Prop:=∃nw' dn' σ'' bs',RW (G0 prog N (k+9)) N fuel grTest (bo 32 [4]) (gF o nb nl nw dn) σ' .next (gF o nb nl nw' dn') σ''∧(∃τ,σ''=σ++τ)∧Gj o bs' nb σ''∧P (bs'.map gm)
theorem groeb_loop(hN:Big N)(ho:o<3){P:List PG→Prop}:∀(n:Nat) (gs:List PG) (W:List Pr),GOk o P n gs W→∀{dn:Nat} {bs:List Be} {nb nl nw:Nat} {σ':Sto} (fuel:Nat),GI o σ gs W bs nb nl nw σ'→dn+n≤40→n<fuel→
 GEnd N k o P nb nl nw dn fuel σ σ':=by
 have stop:∀(gs:List PG) (W:List Pr),W=[]→P gs→∀{dn:Nat} {bs:List Be} {nb nl nw:Nat} {σ':Sto} (fuel:Nat),GI o σ gs W bs nb nl nw σ'→0<fuel→
  GEnd N k o P nb nl nw dn fuel σ σ':=by
  rintro gs W rfl hP dn bs nb nl nw σ' fuel I hf;cases fuel with
  |zero=>exact absurd hf (Nat.lt_irrefl _)
  |succ fuel=>exact⟨nw,dn,σ',bs,RW.stop (wE _ grTest (gF o nb nl nw dn) σ' (Jr I.wat (by decide))) rfl,I.pre,I.bas,by rw[I.gs_];exact hP⟩
 intro n;induction n with
 |zero=>
  intro gs W h dn bs nb nl nw σ' fuel I _ hf;exact stop gs W h.1 h.2 fuel I hf
 |succ n ih=>
  intro gs W h dn bs nb nl nw σ' fuel I hdn hf;rcases h with⟨h1,h2⟩|⟨hW0,hgl,hWl,h⟩
  ·exact stop gs W h1 h2 fuel I (Nat.zero_lt_of_lt hf)
  cases fuel with
  |zero=>exact absurd hf (Nat.not_lt_zero _)
  |succ fuel=>
  have hf:=Nat.lt_of_succ_lt_succ hf;have hWlen:(W.map pV).length<1000:=by rw[Qi];exact Nat.lt_of_le_of_lt hWl (by decide)
  have hWpos:(0:Int)<((W.map pV).length:Int):=Int.ofNat_lt.mpr (by rw[Qi];exact List.length_pos_iff.mpr hW0);have hg2:(gs.map (·.2)).length=gs.length:=Qi _;have hgl2:(gs.map (·.2)).length≤1000:=hg2▸Nat.le_trans hgl (by decide);have hrng:∀p∈W,p.1<(gs.map (·.2)).length∧p.2<(gs.map (·.2)).length:=hg2.symm▸I.rng;refine cps fun qG qK=>?_;refine z22 (c_least (N:=N) (k:=k+6) ho I.d3 I.lds hgl2 I.wat hrng hW0) fun τ1 ij hp e1=>?_;obtain⟨i,j⟩:=ij;refine z21 (h i j hp) fun g1 g2 D=>?_;have hgi:=D.fst;have hgj:=D.snd;have hneed:=D.need;have hsec:=D.sec;refine qK ?_;let fr1:AL:=[(35,.loc nb),(20,.loc nl),(33,.loc nw),(0,.str o),(28,.int 40),(36,.int (dn:Int)),(32,pV (i,j))]
  refine z11 (filter_loop (Φ:=G0 prog N (k+9)) (σ:=σ'++τ1) (q:=(i,j)) (fr:=fr1) (Qw I.wat) (Nat.le_trans hWl (by decide)) rfl fun _=>rfl) fun τ2 e2=>?_;let W':=flt W (i,j);let σ2:Sto:=σ'++τ1++τ2++[.list (W'.map pV)];let nw':=(σ'++τ1++τ2).length;have hpre2:∃t,σ2=σ++t:=Qz (Qz (Qz I.pre));have hnw5:σ.length≤nw':=J7 (Qz (Qz I.pre));have hnw':σ2[nw']?=some (.list (W'.map pV)):=G1;have hb2:Gj o bs nb σ2:=((I.bas.app τ1).app τ2).app _;have hl2:σ2[nl]?=some (.list ((gs.map (·.2)).map mV)):=Qw (Qw (Qw I.lds));have hnb':nb<nw':=J5 (Qw (Qw I.bas.lst));have hnl':nl<nw':=J5 (Qw (Qw I.lds));have hmi:(gs.map (·.2))[i]?=some g1.2:=by rw[Qd,hgi];rfl
  have hmj:(gs.map (·.2))[j]?=some g2.2:=by rw[Qd,hgj];rfl
  refine z23 (c_needless (N:=N) (k:=k+6) (σ:=σ2) (W:=W') (i:=i) (j:=j) (nw:=nw') (nl:=nl) (Nat.ne_of_gt hnl') hl2 hgl2 hnw' hmi hmj) fun τ3 nd? e3 hreason hnot=>?_;have hW'l:W'.length≤W.length:=List.length_filter_le _ _;have hrng':∀p∈W',p.1<gs.length∧p.2<gs.length:=fun p hp=>I.rng p (List.mem_filter.mp hp).1;have etest:RE (G0 prog N (k+9)) grTest (gF o nb nl nw dn) σ' (.bool (decide ((0:Int)<((W.map pV).length:Int)))) σ':=wE _ grTest (gF o nb nl nw dn) σ' (Jr I.wat hWlen);cases nd? with
  |true=>
   exact z31 (ih gs W' (hneed (hreason rfl)) (dn:=dn) fuel {pre:=Qz hpre2,bas:=hb2.app _,gs_:=I.gs_,lds:=Qw hl2,wat:=Qw hnw',gb:=I.gb,gl:=I.gl,gw:=hnw5,d1:=I.d1,d2:=Nat.ne_of_lt hnb',d3:=Nat.ne_of_gt hnl',rng:=hrng'} (Nat.le_of_succ_le hdn) hf) fun n1 d1 s1 h=>⟨n1,d1,s1,h.imp fun _ e=>⟨RW.turn etest (decide_eq_true hWpos) (wB _ N (bo 32 [4]) (gF o nb nl nw dn) σ' e1 e2 e3 rfl) [35,20,33,0,28,36] e.1 trivial,e.2⟩⟩
  |false=>
   refine cps fun qG qK=>?_;refine zA4 (hsec (hnot rfl)) fun okS okT okP hred=>z21 hred fun nd r Er=>?_;have run:=Er.run;have hr0:=Er.nil;have hr1:=Er.new;have hbi:∃x,bs[i]?=some x∧gm x=g1:=by
    have:=hgi;rw[←I.gs_,Qd]at this;exact Qo this
   have hbj:∃x,bs[j]?=some x∧gm x=g2:=by
    have:=hgj;rw[←I.gs_,Qd]at this;exact Qo this
   refine z12 hbi fun x hx hxe=>?_;refine z12 hbj fun y hy hye=>?_;refine qK ?_;subst hxe;subst hye;have hxm:=Qf hx;have hym:=Qf hy;have hb3:=hb2.app τ3;refine z22 (c_spoly (N:=N) (k:=k+2) (σ:=σ2++τ3) hN ho (hb3.at_ _ hxm) (hb3.at_ _ hym) (hb3.ok _ hxm) (hb3.ok _ hym) (hb3.szG _ hxm) (hb3.szG _ hym) (hb3.ld _ hxm) (hb3.ld _ hym) (hb3.one _ hxm) (hb3.one _ hym) okS okT) fun τ4 ns4 e4 h4=>?_;have hb4:=hb3.app τ4;have run':=run.change (show(mkB gs).map gm=bs.map gm by rw[mkB_gm,I.gs_]);refine z22 (c_rest (N:=N) (k:=k+1) (σ:=σ2++τ3++τ4) hN ho hb4 h4 okP run' Er.le) fun τ5 nr e5 h5=>?_;let σ5:Sto:=σ2++τ3++τ4++τ5;have hb5:Gj o bs nb σ5:=hb4.app τ5;have hpre5:∃t,σ5=σ++t:=Qz (Qz (Qz hpre2));have hl5:σ5[nl]?=some (.list ((gs.map (·.2)).map mV)):=Qw (Qw (Qw hl2));have hw5:σ5[nw']?=some (.list (W'.map pV)):=Qw (Qw (Qw hnw'));have hdn1:dn+1+n≤40:=by rw[Nat.add_assoc,Nat.add_comm 1];exact hdn
   have hg40:decide ((40:Int)<(dn:Int)+1)=false:=decide_eq_false (Int.not_lt.mpr (Int.ofNat_le.mpr (Nat.le_trans (Nat.le_add_right _ _) hdn1)));have hbl:(bs.map fun b=>V.loc b.p).length≤100:=by rw[Qi];exact hb5.len
   have hbl1:(bs.map fun b=>V.loc b.p).length≤1000:=Nat.le_trans hbl (by decide);have si:Jg (.loc nb) (.int (i:Int)) (σ2++τ3)=some (.loc x.p):=Y0 hb3.lst (by rw[Qd,hx];rfl) hbl1;have sj:Jg (.loc nb) (.int (j:Int)) (σ2++τ3)=some (.loc y.p):=Y0 hb3.lst (by rw[Qd,hy];rfl) hbl1;have hgsl:gs.length=bs.length:=by rw[←I.gs_,Qi]
   have fin:∀{gs1 W1 bs1 nw1 fr1 s1},GOk o P n gs1 W1→GI o σ gs1 W1 bs1 nb nl nw1 s1→QB (G0 prog N (k+9)) N (bo 32 [4]) (gF o nb nl nw dn) σ' .next fr1 s1→sl fr1 [35,20,33,0,28,36]=gF o nb nl nw1 (dn+1)→
    GEnd N k o P nb nl nw dn (fuel+1) σ σ':=fun hok hI hb hs=>
    z31 (ih _ _ hok (dn:=dn+1) fuel hI hdn1 hf) fun n1 d1 s1 h=>⟨n1,d1,s1,h.imp fun _ e=>⟨RW.turn etest (decide_eq_true hWpos) hb [35,20,33,0,28,36] (hs▸e.1) trivial,e.2⟩⟩
   by_cases hrz:r=[]
   ·subst hrz;exact fin (hr0 rfl) {pre:=hpre5,bas:=hb5,gs_:=I.gs_,lds:=hl5,wat:=hw5,gb:=I.gb,gl:=I.gl,gw:=hnw5,d1:=I.d1,d2:=Nat.ne_of_lt hnb',d3:=Nat.ne_of_gt hnl',rng:=hrng'} (wB _ N (bo 32 [4]) (gF o nb nl nw dn) σ' e1 e2 e3 rfl hg40 rfl si rfl sj e4 e5 (U7 h5 (by decide)) rfl) rfl
   ·refine cps fun qG qK=>?_;refine z11 (hr1 hrz) fun m Gm=>?_;have hlm:=Gm.lead;have okr:=Gm.ok;have hpg:=Gm.pg;have hnext:=Gm.next;refine qK ?_;have hrl:r.length<1000:=Nat.lt_of_le_of_lt okr.len (by decide);have hlb5:σ5[nb]?=some (.list (bs.map fun b=>V.loc b.p)):=hb5.lst;let σ6:Sto:=σ5++[.list ((newW gs.length).map pV)];have hnew:RE (G0 prog N (k+9)) (.lcomp nE (.one 5) .range (.prim .len (.cons (.var 35) .nil)) .no) [(35,.loc nb),(20,.loc nl),(33,.loc nw'),(0,.str o),(28,.int 40),(36,.int ((dn:Int)+1)),(32,pV (i,j)),(23,.loc nr)] σ5 (.loc σ5.length) σ6:=by
     have:=new_loop (Φ:=G0 prog N (k+9)) (fr:=[(35,.loc nb),(20,.loc nl),(33,.loc nw'),(0,.str o),(28,.int 40),(36,.int ((dn:Int)+1)),(32,pV (i,j)),(23,.loc nr)]) hlb5 hbl rfl fun _=>rfl;rw[Qi,←hgsl]at this;exact this
    have hw6:σ6[nw']?=some (.list (W'.map pV)):=Qw hw5;have hn6:σ6[σ5.length]?=some (.list ((newW gs.length).map pV)):=G1;have hnWl:(newW gs.length).length=gs.length:=by unfold newW;rw[Qi,List.length_range]
    let W'':=W'++newW gs.length;let σ7:Sto:=σ6.set nw' (.list (W''.map pV));have hext:Ji .extend (.loc nw') [.loc σ5.length] σ6=some (.none,σ7):=by
     refine(extend_ok hw6 hn6 (Nat.ne_of_gt (J5 hw5)) ?_).trans ?_
     ·rw[Qi,Qi,hnWl];exact Nat.lt_of_le_of_lt (Nat.add_le_add (Nat.le_trans hW'l hWl) hgl) (by decide)
     ·rw[←Qr]
    have hpre7:∃t,σ7=σ++t:=Yb (Qz hpre5) hnw5;have hr7:σ7[nr]?=some (.dict (Qy r)):=G8 hw6 (Qw h5);refine z23 (c_monic (N:=N) (k:=k+4) (σ:=σ7) hN ho hr7 okr Gm.szr hlm Gm.szi) fun τ8 n8 e8 g8 hn8=>?_;let σ8:Sto:=σ7++τ8;have hlb7:σ7[nb]?=some (.list (bs.map fun b=>V.loc b.p)):=Gr (Qw hlb5) (Nat.ne_of_gt hnb');have hlb8:σ8[nb]?=some (.list (bs.map fun b=>V.loc b.p)):=Qw hlb7;let nbe:Be:=⟨n8,Gv r (co r m)⁻¹,m⟩
    let σ9:Sto:=σ8.set nb (.list ((bs++[nbe]).map fun b=>V.loc b.p));have happ1:Ji .append (.loc nb) [.loc n8] σ8=some (.none,σ9):=(Ye hlb8 (Nat.lt_of_le_of_lt hbl (by decide))).trans (by rw[show(bs.map fun b=>V.loc b.p)++[V.loc n8]=(bs++[nbe]).map fun b=>V.loc b.p by rw[Qr];rfl]);have hr9:σ9[nr]?=some (.dict (Qy r)):=G8 hlb8 (Qw hr7);refine z11 (c_lead (N:=N) (k:=k+7) (σ:=σ9) ho hr9 hlm) fun τ10 e10=>?_;let σ10:Sto:=σ9++τ10;have hl9:σ9[nl]?=some (.list ((gs.map (·.2)).map mV)):=Gr (Qw (Gr (Qw hl5) (Nat.ne_of_gt hnl'))) I.d1;have hl10:σ10[nl]?=some (.list ((gs.map (·.2)).map mV)):=Qw hl9;let gs':=gs++[(Gv r (co r m)⁻¹,m)];let σ11:Sto:=σ10.set nl (.list ((gs'.map (·.2)).map mV));have happ2:Ji .append (.loc nl) [mV m] σ10=some (.none,σ11):=(Ye hl10 (by rw[Qi];exact Nat.lt_of_le_of_lt hgl2 (by decide))).trans (by rw[show((gs.map (·.2)).map mV)++[mV m]=(gs'.map (·.2)).map mV by rw[Qr,Qr];rfl]);have hdict:∀{q:Nat} {es:List (List Int×V)},σ5[q]?=some (.dict es)→σ11[q]?=some (.dict es):=fun hq=>G8 hl10 (Qw (G8 hlb8 (Qw (G8 hw6 (Qw hq)))));have hn8':σ11[n8]?=some (.dict (Qy (Gv r (co r m)⁻¹))):=G8 hl10 (Qw (G8 hlb8 g8));have mem:∀{Q:Be→Prop},(∀b∈bs,Q b)→Q nbe→∀b∈bs++[nbe],Q b:=fun h1 h2 b hb=>(Qh hb).elim (h1 b) fun hb=>Q2 hb▸h2;have hlen1:∀{α:Type} {l:List α} {x:α},(l++[x]).length=l.length+1:=Q8;have hb11:Gj o (bs++[nbe]) nb σ11:=
     {lst:=Gr (Qw (G7 hlb8)) (Ne.symm I.d1),at_:=mem (fun b hb=>hdict (hb5.at_ b hb)) hn8',ok:=mem hb5.ok hpg.1,szG:=mem hb5.szG hpg.2.1,ld:=mem hb5.ld hpg.2.2.1,one:=mem hb5.one hpg.2.2.2,len:=by rw[hlen1,←hgsl];exact Nat.le_trans (Nat.succ_le_succ hgl) (by decide)}
    refine fin hnext {pre:=Yb (Qz (Yb (Qz hpre7) I.gb)) I.gl,bas:=hb11,gs_:=?_,lds:=G7 hl10,wat:=?_,gb:=I.gb,gl:=I.gl,gw:=hnw5,d1:=I.d1,d2:=Nat.ne_of_lt hnb',d3:=Nat.ne_of_gt hnl',rng:=?_} (wB _ N (bo 32 [4]) (gF o nb nl nw dn) σ' e1 e2 e3 rfl hg40 rfl si rfl sj e4 e5 (U7 h5 hrl) (decide_eq_true (Int.ofNat_lt.mpr (tlead_pos hlm))) hnew (kind2 hw5 hw6) hext e8 (kind2 hlb7 hlb8) happ1 e10 rfl (kind2 hl9 hl10) happ2) rfl
    ·rw[Qr,I.gs_];rfl
    ·exact Gr (Qw (Gr (Qw (G7 hw6)) (Nat.ne_of_lt hnb'))) (Nat.ne_of_lt hnl')
    ·intro p hp;rw[hlen1];rcases Qh hp with hp|hp
     ·exact⟨Nat.lt_succ_of_lt (hrng' p hp).1,Nat.lt_succ_of_lt (hrng' p hp).2⟩
     ·obtain⟨q,hq,rfl⟩:=Qg hp;exact⟨Nat.lt_succ_of_lt (List.mem_range.mp hq),Nat.lt_succ_self _⟩
theorem c_groebner(hN:Big N)(ho:o<3){fs:List Be}(H:InAt o fs ns σ)(hm:∀f∈fs,PG1 o (Y2 f)){P:List PG→Prop}{n:Nat}(hn:n≤40)(hl:fs.length≤20)(h:GOk o P n (fs.map Y2) (initW fs.length)):
 ∃τ nb bs',G0 prog N (k+10) 32 [.loc ns,.str o,.int 40] σ=some (.loc nb,σ++τ)∧Gj o bs' nb (σ++τ)∧P (bs'.map gm):=by
 let fr0:AL:=[(22,.loc ns),(0,.str o),(28,.int 40)]
 refine cps fun qG qK=>?_;refine z23 (monic_loop (N:=N) (k:=k+4) hN ho H (fr:=fr0) (fun _=>rfl) fs [] [] (fun b hb=>hb) (by rw[Qk,Nat.zero_add];exact Nat.le_trans hl (by decide))) fun bs τ1 e1 g1 g2=>?_;rw[Qp,List.nil_append,List.nil_append]at e1;rw[List.nil_append]at g2;have e1':=RE.lc (wE (G0 prog N (k+9)) (.var 22) fr0 σ) (lsrc_ok H.lst) e1;have hbl:bs.length=fs.length:=by have:=congrArg List.length g1;rwa[Qi,Qi]at this
 have hbl2:bs.length≤20:=hbl▸hl;let σ1:Sto:=σ++τ1++[.list (bs.map fun b=>V.loc b.p)];have hpg:∀b∈bs,PG1 o (gm b):=fun b hb=>by
  have:gm b∈fs.map Y2:=by rw[←g1];exact Qj hb
  exact z12 (Qg this) fun f hf e=>e▸hm f hf
 have hB:Gj o bs (σ++τ1).length σ1:=
  {
   lst:=G1
   at_:=fun b hb=>zA2 (g2 b hb) fun h1 h2=>Qw (by rw[List.getElem?_append_right h1];exact h2)
   ok:=fun b hb=>(hpg b hb).1,szG:=fun b hb=>(hpg b hb).2.1,ld:=fun b hb=>(hpg b hb).2.2.1,one:=fun b hb=>(hpg b hb).2.2.2,len:=Nat.le_trans hbl2 (by decide)}
 let fr1:AL:=[(22,.loc ns),(0,.str o),(28,.int 40),(35,.loc (σ++τ1).length)]
 refine z11 (Z5 (N:=N) (k:=k+7) (σ:=σ1) ho hB (wE (G0 prog N (k+9)) (.var 35) fr1 σ1) fun _=>rfl) fun τ2 e2=>?_;let σ2:Sto:=σ1++τ2++[.list ((bs.map (·.m)).map mV)];have hB2:Gj o bs (σ++τ1).length σ2:=(hB.app τ2).app _;let fr2:AL:=[(22,.loc ns),(0,.str o),(28,.int 40),(35,.loc (σ++τ1).length),(20,.loc (σ1++τ2).length)]
 have c0:RE (G0 prog N (k+9)) (.prim .len (.cons (.var 35) .nil)) fr2 σ2 (.int ((bs.length:Nat):Int)) σ2:=by
  have:=wE (G0 prog N (k+9)) (.prim .len (.cons (.var 35) .nil)) fr2 σ2 (Jr hB2.lst (by rw[Qi];exact Nat.lt_of_le_of_lt hbl2 (by decide)));rwa[Qi]at this
 have c1:=RE.ld c0 (rsrc_ok (Nat.lt_of_le_of_lt hbl2 (by decide))) fun ρ _=>wait_out (Φ:=G0 prog N (k+9)) (σ:=σ2) (ρ:=ρ) (items:=Zc bs.length) (List.range bs.length) [] (by rw[Qk,Nat.zero_add,List.length_range];exact Nat.le_trans (Nat.mul_le_mul_left 20 hbl2) (by decide)) fun j hj=>Nat.le_trans (Nat.le_of_lt (List.mem_range.mp hj)) hbl2;let σ3:Sto:=σ2++[.list ((initW bs.length).map pV)];have hgs:bs.map gm=fs.map Y2:=g1;have hlm:(bs.map (·.m)).map mV=((fs.map Y2).map (·.2)).map mV:=by rw[←hgs,List.map_map (l:=bs) (f:=gm)];rfl
 have h1:(σ++τ1).length<σ1.length:=J5 hB.lst;have h2:σ1.length≤(σ1++τ2).length:=J7 ⟨τ2,rfl⟩;have h3:(σ1++τ2).length<σ2.length:=J5 G1;have h4:σ.length≤(σ++τ1).length:=J7 ⟨τ1,rfl⟩;have I:GI o σ (fs.map Y2) (initW fs.length) bs (σ++τ1).length (σ1++τ2).length σ2.length σ3:=
  {
   pre:=Qz (Qz (Qz (Qz ⟨τ1,rfl⟩))),bas:=hB2.app _,gs_:=hgs,lds:=Qw (hlm▸G1),wat:=hbl▸G1,
   gb:=h4,gl:=Nat.le_trans h4 (Nat.le_trans (Nat.le_of_lt h1) h2),gw:=Nat.le_trans h4 (Nat.le_trans (Nat.le_of_lt h1) (Nat.le_trans h2 (Nat.le_of_lt h3))),d1:=Nat.ne_of_lt (Nat.lt_of_lt_of_le h1 h2),d2:=Nat.ne_of_lt (Nat.lt_of_lt_of_le h1 (Nat.le_trans h2 (Nat.le_of_lt h3))),d3:=Nat.ne_of_gt h3
   rng:=fun p hp=>by
    obtain⟨j,hj,hp⟩:=List.mem_flatMap.mp hp;obtain⟨i,hi,rfl⟩:=Qg hp;rw[Qi];exact⟨Nat.lt_trans (List.mem_range.mp hi) (List.mem_range.mp hj),List.mem_range.mp hj⟩}
 refine z31 (groeb_loop (k:=k) hN ho n _ _ h (dn:=0) N I (Nat.le_trans (Nat.le_of_eq (Nat.zero_add n)) hn) (hN.small (Nat.lt_of_le_of_lt hn (by decide)))) fun nw' dn' σ'' h=>z13 h fun bs' f1 f2 f4=>z11 f2 fun τ f2=>?_;refine qK ?_;subst f2;exact⟨τ,_,bs',wF N (k+9) 32 [.loc ns,.str o,.int 40] σ e1' e2 c1 (RW.loop [35,20,33,0,28,36] f1),f4⟩
end
noncomputable def keepB(L:List Qx)(t:Nat)(l:Qx):Bool:=(fdv 0 (L.take t++(L.drop (t+1)).filter fun q=>decide (q≠l)) l).isNone
noncomputable def Ua{α:Type}(L:List Qx)(f:α→Qx):Nat→List α→List α
 |_,[]=>[]
 |t,b::r=>if keepB L t (f b)=true then b::Ua L f (t+1) r else Ua L f (t+1) r
section
variable{N k:Nat}{σ:Sto}{Φ:Calls}{n na nb nl nw nk ns nf:Nat}{T A B F:Tm}{m p a b:Qx}{o:Nat}{bs:List Be}
theorem p62:((1000:Nat):Int)<2^62:=by decide+kernel
theorem bnd_ok{len d t:Nat}(ht:t≤1000):bnd len d (some (.int (t:Int)))=some (min t len):=by
 have hc:(0:Int)≤(t:Int)∧(t:Int)<2^62:=⟨Int.natCast_nonneg t,Int.lt_of_le_of_lt (Int.ofNat_le.mpr ht) p62⟩
 unfold bnd;dsimp only;rw[if_pos hc,Int.toNat_natCast]
theorem slice_ro{xs:List V}{lo hi:Option V}{a b:Nat}(h:σ[n]?=some (.ro xs))(hl:xs.length<lim)(h1:bnd xs.length 0 lo=some a)(h2:bnd xs.length xs.length hi=some b):Jc (.loc n) lo hi σ=some (.loc σ.length,σ++[.list ((xs.take b).drop a)]):=by
 unfold Jc;dsimp only;rw[h];dsimp only;rw[if_pos hl,h1,h2]
theorem Uw{j:Nat}(h:j≤5000):j<lim:=Nat.lt_of_le_of_lt h (by decide)
theorem slice_to{xs:List V}{t:Nat}(h:σ[n]?=some (.ro xs))(hl:xs.length≤1000)(ht:t≤1000):Jc (.loc n) none (some (.int (t:Int))) σ=some (.loc σ.length,σ++[.list (xs.take t)]):=by
 rw[slice_ro h (Uw (Nat.le_trans hl (by decide))) rfl (bnd_ok ht),List.drop_zero,←List.take_eq_take_min]
theorem slice_from{xs:List V}{t:Nat}(h:σ[n]?=some (.ro xs))(hl:xs.length≤1000)(ht:t≤1000)(hx:t≤xs.length):Jc (.loc n) (some (.int (t:Int))) none σ=some (.loc σ.length,σ++[.list (xs.drop t)]):=by
 rw[slice_ro h (Uw (Nat.le_trans hl (by decide))) (bnd_ok ht) rfl,List.take_length,Nat.min_eq_left hx]
theorem nem_ok{p q:Qx}:Gy .ne (mV p) (mV q) σ=some (decide (p≠q)):=nep_ok
noncomputable def mF(nl nf nk:Nat):AL:=[(20,.loc nl),(7,.loc nf),(37,.loc nk)]
theorem map_snoc{α β:Type}{f:α→β}{l:List α}{x:α}:l.map f++[f x]=(l++[x]).map f:=by rw[Qr];rfl
theorem min_loop(hF:σ[nf]?=some (.list (lp bs)))(hL:σ[nl]?=some (.list ((bs.map (·.m)).map mV)))(hbl:bs.length≤100)(hfl:nf≠nl)(hkl:nk≠nl)(hkf:nk≠nf):∀(R:List Be) (t:Nat) (kept:List Be) (τ:Sto),(∀s,R[s]?=bs[t+s]?)→kept.length≤t→(σ.set nl (.ro ((bs.map (·.m)).map mV))++τ)[nk]?=some (.list (lp kept))→σ.length≤nk→
 ∃τ',RF (G0 prog N (k+3)) N (sE nl ((bs.map (·.m)).map mV)) (.many [5,1]) (bo 33 [3]) (Uj t ((R.map (·.m)).map mV)) (mF nl nf nk) (σ.set nl (.ro ((bs.map (·.m)).map mV))++τ) .next (mF nl nf nk) (σ++τ')∧
  (σ++τ')[nk]?=some (.list (lp (kept++Ua (bs.map (·.m)) (·.m) t R))):=by
 intro R;induction R with
 |nil=>
  intro t kept τ hR hkt hk hge;refine⟨τ,RF.nil (Jn (Qw (G7 hL))) (free_ro hL),?_⟩;rw[show Ua (bs.map (·.m)) (·.m) t ([]:List Be)=[]from rfl,Qp];rw[List.getElem?_append_right (by rw[List.length_set];exact hge),List.length_set]at hk;rw[List.getElem?_append_right hge];exact hk
 |cons x R ih=>
  intro t kept τ hR hkt hk hge;have hx:bs[t]?=some x:=(hR 0).symm;have htl:t<bs.length:=(Q6 hx).1;have hR':∀s,R[s]?=bs[t+1+s]?:=fun s=>by rw[Nat.add_assoc,Nat.add_comm 1];exact hR (s+1)
  let L:=bs.map (·.m);have hLn:L.length=bs.length:=Qi _;have htl2:t≤100:=Nat.le_trans (Nat.le_of_lt htl) hbl;let S0:Sto:=σ.set nl (.ro (L.map mV))++τ;have hro:S0[nl]?=some (.ro (L.map mV)):=Qw (G7 hL);have hLm:(L.map mV).length=bs.length:=(Qi _).trans hLn;have hLl:(L.map mV).length≤1000:=hLm▸Nat.le_trans hbl (by decide);have s1:=slice_to (t:=t) hro hLl (Nat.le_trans htl2 (by decide));let S1:Sto:=S0++[.list ((L.map mV).take t)];have s2:=slice_from (σ:=S1) (t:=t+1) (Qw hro) hLl (Nat.le_trans (Nat.succ_le_succ htl2) (by decide)) (hLm▸htl);let S2:Sto:=S1++[.list ((L.map mV).drop (t+1))];have hd2:S2[S1.length]?=some (.list ((L.drop (t+1)).map mV)):=by rw[List.map_drop];exact G1
  let fr:AL:=[(20,.loc nl),(7,.loc nf),(37,.loc nk),(5,.int (t:Int)),(1,mV x.m)]
  have hdl:(L.drop (t+1)).length≤100:=Nat.le_trans (List.length_drop▸Nat.sub_le _ _) (hLn▸hbl);refine cps fun qG qK=>?_;refine z11 (filter_gen (Φ:=G0 prog N (k+3)) (q:=x.m) (v:=1) (fr:=fr) nem_ok hd2 (Nat.le_trans hdl (by decide)) (wE _ (.slice (.var 20) (.yes (.bin .add (.var 5) (.int 1))) .no) fr S1 s2) fun _=>rfl) fun τ3 e3=>?_;let fl:=(L.drop (t+1)).filter fun p=>decide (p≠x.m);let S4:Sto:=S2++τ3++[.list (fl.map mV)];have ht0:S1[S0.length]?=some (.list ((L.take t).map mV)):=by rw[List.map_take];exact G1
  have ht1:S4[S0.length]?=some (.list ((L.take t).map mV)):=Qw (Qw (Qw ht0));have hfll:fl.length≤100:=Nat.le_trans (List.length_filter_le _ _) hdl;have htk:(L.take t).length≤100:=Nat.le_trans (List.length_take_le _ _) htl2;have s5:=addl_ok ht1 G1 (Nat.lt_of_le_of_lt (by rw[Qi,Qi];exact Nat.add_le_add htk hfll) (by decide:200<lim));let S5:Sto:=S4++[.list ((L.take t).map mV++fl.map mV)];have ho5:S5[S4.length]?=some (.list ((L.take t++fl).map mV)):=by rw[Qr];exact G1
  refine z11 (c_divided (N:=N) (k:=k) (σ:=S5) (p:=x.m) ho5 (by rw[Q8];exact Nat.le_trans (Nat.add_le_add htk hfll) (by decide))) fun τ6 e6=>?_;have hS6:∃t',(S5++τ6)=σ.set nl (.ro (L.map mV))++t':=Qz (Qz (Qz (Qz (Qz (Qz ⟨τ,rfl⟩)))));have up:∀{j:Nat} {ob:Ob},S0[j]?=some ob→(S5++τ6)[j]?=some ob:=fun h=>Qw (Qw (Qw (Qw (Qw (Qw h)))));have hk6:=up hk;refine z11 hS6 fun t' ht'=>?_;refine qK ?_;cases hd:(fdv 0 (L.take t++fl) x.m).isSome with
  |true=>
   have hkf:Ua L (·.m) t (x::R)=Ua L (·.m) (t+1) R:=if_neg (fun h:(fdv 0 (L.take t++fl) x.m).isNone=true=>by rw[Option.isNone_iff_eq_none.mp h]at hd;cases hd);rw[hkf];refine z12 (ih (t+1) kept t' hR' (Nat.le_succ_of_le hkt) (ht'▸hk6) hge) fun τ' g1 g2=>?_;rw[←ht']at g1;exact⟨τ',RF.cons (Jn hro) rfl (wB (G0 prog N (k+3)) N (bo 33 [3]) fr S0 s1 e3 s5 e6 (by rw[hd];rfl:(!(fdv 0 (L.take t++fl) x.m).isSome)=false)) trivial [20,7,37] g1,g2⟩
  |false=>
   have hkf2:Ua L (·.m) t (x::R)=x::Ua L (·.m) (t+1) R:=if_pos (show(fdv 0 (L.take t++fl) x.m).isNone=true by cases hh:fdv 0 (L.take t++fl) x.m with
    |none=>rfl
    |some y=>rw[hh]at hd;cases hd)
   rw[hkf2];refine z11 (Yb (o:=.list (lp (kept++[x]))) ⟨t',ht'⟩ (by rw[List.length_set];exact hge)) fun t2 ht2'=>?_;have hf6:(S5++τ6)[nf]?=some (.list (lp bs)):=up (Qw (Gr hF (Ne.symm hfl)));have hsub:Jg (.loc nf) (.int (t:Int)) (S5++τ6)=some (.loc x.p):=Y0 hf6 (by unfold lp;rw[Qd,hx];rfl) (by unfold lp;rw[Qi];exact Nat.le_trans hbl (by decide));have hkl:(lp kept).length<5000:=by unfold lp;rw[Qi];exact Nat.lt_of_le_of_lt (Nat.le_trans hkt htl2) (by decide)
   have happ:Ji .append (.loc nk) [.loc x.p] (S5++τ6)=some (.none,(S5++τ6).set nk (.list (lp (kept++[x])))):=(Ye hk6 hkl).trans (by rw[show lp kept++[V.loc x.p]=lp (kept++[x])from map_snoc (f:=fun b:Be=>V.loc b.p)]);have hk7:((S5++τ6).set nk (.list (lp (kept++[x]))))[nk]?=some (.list (lp (kept++[x]))):=G7 hk6;refine z12 (ih (t+1) (kept++[x]) t2 hR' (by rw[Q8];exact Nat.succ_le_succ hkt) (ht2'▸hk7) hge) fun τ' g1 g2=>?_;rw[←ht2']at g1;rw[Qb]at g2;exact⟨τ',RF.cons (Jn hro) rfl (wB (G0 prog N (k+3)) N (bo 33 [3]) fr S0 s1 e3 s5 e6 (by rw[hd];rfl:(!(fdv 0 (L.take t++fl) x.m).isSome)=true) hsub rfl happ) trivial [20,7,37] g1,g2⟩
theorem pos_loop(H:Gj o bs ns σ){fr:AL}(h35:lk fr 35=some (.loc ns)):∃τ,RE Φ (.lcomp (.var 2) (.one 2) .plain (.var 35) (.yes (.cmp .gt (.prim .len (.cons (.var 2) .nil)) (.int 0)))) fr σ (.loc (σ++τ).length) (σ++τ++[.list (lp bs)]):=
 RE.am (iv:=fun b:Be=>V.loc b.p) _ (fun ρ Hr=>bnI (Hr 35 _ h35) rfl) H.lst (Nat.le_trans H.len (by decide)) fun b hb acc τ ha=>⟨τ,RT.yes rfl (RE.two Jq Jq (wE Φ (.cmp .gt (.prim .len (.cons (.var 2) .nil)) (.int 0)) [(2,.loc b.p),(2,.loc b.p)] _ (U7 (Qw (Jf H.lst (H.at_ b hb))) (Nat.lt_of_le_of_lt (H.ok b hb).len (by decide))))) (decide_eq_true (Int.ofNat_lt.mpr (tlead_pos (H.ld b hb)))) (fun ρ Hr=>bnI (Hr 2 _ Jq) rfl) (Yw ha)⟩
noncomputable def minB(bs:List Be):List Be:=Ua (bs.map (·.m)) (·.m) 0 bs
theorem minR_sub{α:Type}{L:List Qx}{f:α→Qx}:∀{t:Nat} {l:List α},(Ua L f t l).Sublist l
 |_,[]=>List.Sublist.refl _
 |t,b::r=>by
  show(if keepB L t (f b)=true then b::Ua L f (t+1) r else Ua L f (t+1) r).Sublist (b::r);split
  ·exact minR_sub.cons_cons _
  ·exact minR_sub.cons _
theorem c_minimal(ho:o<3)(H:Gj o bs ns σ):∃τ nk,G0 prog N (k+4) 33 [.loc ns,.str o] σ=some (.loc nk,σ++τ)∧Gj o (minB bs) nk (σ++τ):=by
 refine z11 (pos_loop (Φ:=G0 prog N (k+3)) H (fr:=[(35,.loc ns),(0,.str o)]) rfl) fun τ1 e1=>?_;let S1:Sto:=σ++τ1++[.list (lp bs)];have hB1:Gj o bs (σ++τ1).length S1:={(H.app τ1).app [.list (lp bs)]with lst:=G1}
 refine z11 (Z5 (N:=N) (k:=k+1) (σ:=S1) ho hB1 (wE _ (.var 7) [(35,.loc ns),(0,.str o),(7,.loc (σ++τ1).length)] S1) fun _=>rfl) fun τ2 e2=>?_;let S2:Sto:=S1++τ2++[.list ((bs.map (·.m)).map mV)];have hB2:Gj o bs (σ++τ1).length S2:=(hB1.app τ2).app _;have hL2:S2[(S1++τ2).length]?=some (.list ((bs.map (·.m)).map mV)):=G1;have hl1:(σ++τ1).length<(S1++τ2).length:=Nat.lt_of_lt_of_le (J5 hB1.lst) (J7 ⟨τ2,rfl⟩);have hl2:(S1++τ2).length<S2.length:=J5 hL2;have hs:=esrc_ok (Qw (τ:=[.list []]) hL2);rw[set_app hL2]at hs;refine z12 (min_loop (N:=N) (k:=k) (σ:=S2) (bs:=bs) (nk:=S2.length) hB2.lst hL2 H.len (Nat.ne_of_lt hl1) (Nat.ne_of_gt hl2) (Nat.ne_of_gt (Nat.lt_trans hl1 hl2)) bs 0 [] [.list []] (fun s=>by rw[Nat.zero_add]) (Qs _) (by
  rw[←List.length_set (as:=S2) (i:=(S1++τ2).length) (a:=Ob.ro ((bs.map (·.m)).map mV))];exact G1) (Qs _)) fun τ' g1 g3=>?_
 refine z11 (Qz (τ':=τ') (Qz (τ':=[.list ((bs.map (·.m)).map mV)]) (Qz (τ':=τ2) (Qz (τ':=[.list (lp bs)]) ⟨τ1,rfl⟩)))) fun t ht=>⟨t,S2.length,ht▸wF N (k+3) 33 [.loc ns,.str o] σ e1 e2 (RF.for (wE (G0 prog N (k+3)) (.var 20) [(35,.loc ns),(0,.str o),(7,.loc (σ++τ1).length),(20,.loc (S1++τ2).length),(37,.loc S2.length)] (S2++[Ob.list []])) hs [20,7,37] g1),ht▸ ?_⟩
 have hBs:=hB2.app τ';have hsub:∀b∈minB bs,b∈bs:=fun b hb=>minR_sub.subset hb;exact{lst:=g3,at_:=fun b hb=>hBs.at_ b (hsub b hb),ok:=fun b hb=>H.ok b (hsub b hb),szG:=fun b hb=>H.szG b (hsub b hb),ld:=fun b hb=>H.ld b (hsub b hb),one:=fun b hb=>H.one b (hsub b hb),len:=Nat.le_trans (minR_sub.length_le) H.len}
end
noncomputable def kV(o:Nat)(x:Qx×Nat):V:=.tup [okV o x.1,.int (x.2:Int)]
section
variable{N k:Nat}{σ:Sto}{Φ:Calls}{n na nb nl nw nk ns nf:Nat}{T A B F:Tm}{m p a b:Qx}{o:Nat}{bs:List Be}
theorem okI_inj(ho:o<3){a b:Qx}:okI o a=okI o b↔a=b:=by
 refine⟨fun h=>?_,fun h=>h▸rfl⟩;have two:∀{x y:Qx} {l l':List Int},(x.1:Int)::(x.2:Int)::l=(y.1:Int)::(y.2:Int)::l'→x=y:=fun h=>Prod.ext (Int.ofNat.inj (List.cons.inj h).1) (Int.ofNat.inj (List.cons.inj (List.cons.inj h).2).1)
 match o,ho with
 |0,_=>exact two h
 |1,_=>exact two (List.cons.inj h).2
 |2,_=>
  have h1:=List.cons.inj (List.cons.inj h).2;exact Prod.ext (Int.ofNat.inj (Int.neg_inj.mp (List.cons.inj h1.2).1)) (Int.ofNat.inj (Int.neg_inj.mp h1.1))
theorem ltk2{d:Nat}(ho:o<3)(a b:Qx):ltD false (d+2) σ (okV o a) (okV o b)=some (mlt o a b):=
 (lexB_ok (okI_len ho a b)).trans (by rw[lexB_sym,lexB_mlt ho])
theorem ltkV(ho:o<3)(x y:Qx×Nat)(h:x.1≠y.1):ltD false 8 σ (kV o x) (kV o y)=some (mlt o x.1 y.1):=
 (ltL2 (x2:=.int (x.2:Int)) (y2:=.int (y.2:Int)) (Ud (d:=5) (okI o x.1) (okI o y.1)) rfl (ltk2 (d:=5) ho x.1 y.1) rfl).trans (by rw[decide_eq_false fun e=>h ((okI_inj ho).mp e)];rfl)
theorem Zs(ho:o<3)(x:Qx×Nat):ltD false 8 σ (kV o x) (kV o x)=some false:=
 (ltL2 (x2:=.int (x.2:Int)) (y2:=.int (x.2:Int)) (Ud (d:=5) (okI o x.1) (okI o x.1)) rfl (ltk2 (d:=5) ho x.1 x.1) rfl).trans (by rw[decide_eq_true rfl,decide_eq_true rfl];rfl)
noncomputable def T2(a:Bool)(i j:Nat):Option Bool:=match i,j with
 |0,1=>some a
 |1,0=>some (!a)
 |0,0=>some false
 |1,1=>some false
 |_,_=>none
noncomputable def T3(a b c:Bool)(i j:Nat):Option Bool:=match i,j with
 |0,1=>some a
 |1,0=>some (!a)
 |0,2=>some b
 |2,0=>some (!b)
 |1,2=>some c
 |2,1=>some (!c)
 |0,0=>some false
 |1,1=>some false
 |2,2=>some false
 |_,_=>none
theorem t2_run(a:Bool):Yz (T2 a) (PySem.W.kas_sort 2)=some (if a then #[0,1]else #[1,0]):=by
 cases a<;>decide+kernel
theorem t3_run:Yz (T3 true true true) (PySem.W.kas_sort 3)=some #[0,1,2]∧Yz (T3 true true false) (PySem.W.kas_sort 3)=some #[0,2,1]∧Yz (T3 true false false) (PySem.W.kas_sort 3)=some #[2,0,1]∧
 Yz (T3 false true true) (PySem.W.kas_sort 3)=some #[1,0,2]∧Yz (T3 false false true) (PySem.W.kas_sort 3)=some #[1,2,0]∧Yz (T3 false false false) (PySem.W.kas_sort 3)=some #[2,1,0]:=by decide+kernel
theorem mlt_not{a b:Qx}(h:a≠b):mlt o b a= !mlt o a b:=by
 rcases mlt_tot (o:=o) a b with h1|h1|h1
 ·rw[h1,Zq h1];rfl
 ·exact absurd h1 h
 ·rw[h1,Zq h1];rfl
theorem pw2{α:Type}{R:α→α→Prop}{a b:α}(h:R a b):[a,b].Pairwise R:=.cons (fun z hz=>Q2 hz▸h) (List.pairwise_singleton _ _)
theorem pw3{α:Type}{R:α→α→Prop}{a b c:α}(h1:R a b)(h2:R a c)(h3:R b c):[a,b,c].Pairwise R:=
 .cons (fun z hz=>(Q5 hz).elim (fun e=>e▸h1) fun hz=>Q2 hz▸h2) (pw2 h3)
theorem sort_ok(ho:o<3)(ks:List (Qx×Nat))(hl:ks.length≤3)(hn:(ks.map (·.1)).Nodup):∃ks':List (Qx×Nat),(∀p,p∈ks'↔p∈ks)∧ks'.length=ks.length∧ks'.Pairwise (fun x y=>mlt o x.1 y.1=true)∧Yr σ (ks.map (kV o))=some (ks'.map (kV o)):=by
 have tt:∀l:List (Qx×Nat),((l.map (kV o)).all tupInt||(l.map (kV o)).all tupTup)=true:=fun l=>by
  rw[Bool.or_eq_true,List.all_eq_true,List.all_eq_true];exact .inr fun v hv=>z12 (Qg hv) fun x _ e=>e▸rfl
 have run:∀l:List (Qx×Nat),¬(l.map (kV o)).length<2→(l.map (kV o)).length<60→Yr σ (l.map (kV o))=(Yz (fun i j=>ltD false 8 σ ((l.map (kV o)).getD i .none) ((l.map (kV o)).getD j .none)) (PySem.W.kas_sort (l.map (kV o)).length)).map fun p=>p.toList.map fun i=>(l.map (kV o)).getD i .none:=fun l h1 h2=>by
  unfold Yr;rw[if_neg h1,if_pos ⟨h2,tt _⟩]
 have sw:∀{x y:Qx×Nat},x.1≠y.1→ltD false 8 σ (kV o y) (kV o x)=some (!mlt o x.1 y.1):=fun{x y} h=>(ltkV ho y x (Ne.symm h)).trans (by rw[mlt_not h]);have lt:∀{x y:Qx×Nat},x.1≠y.1→mlt o x.1 y.1=false→mlt o y.1 x.1=true:=fun h e=>by rw[mlt_not h,e];rfl
 have nm:∀{x:Qx×Nat} {l:List (Qx×Nat)},((x::l).map (·.1)).Nodup→∀y∈l,x.1≠y.1:=fun hn y hy e=>(List.nodup_cons.mp hn).1 (List.mem_map.mpr ⟨y,hy,e.symm⟩)
 match ks,hl,hn with
 |[],_,_=>exact⟨[],fun _=>Iff.rfl,rfl,List.Pairwise.nil,rfl⟩
 |[x],_,_=>exact⟨[x],fun _=>Iff.rfl,rfl,List.pairwise_singleton _ _,rfl⟩
 |[x,y],_,hn=>
  have hxy:=nm hn y (.head _);have hT:(fun i j=>ltD false 8 σ (([x,y].map (kV o)).getD i .none) (([x,y].map (kV o)).getD j .none))=T2 (mlt o x.1 y.1):=by
   funext i j
   match i,j with
   |0,0=>exact Zs ho x
   |0,1=>exact ltkV ho x y hxy
   |1,0=>exact sw hxy
   |1,1=>exact Zs ho y
   |0,j+2|1,j+2|i+2,0|i+2,1|i+2,j+2=>rfl
  rw[run [x,y] (show¬2<2 by decide) (show 2<60 by decide),hT,show([x,y].map (kV o)).length=2 from rfl,t2_run];cases h:mlt o x.1 y.1 with
  |true=>exact⟨[x,y],fun _=>Iff.rfl,rfl,pw2 h,rfl⟩
  |false=>exact⟨[y,x],fun p=>(List.Perm.swap x y []).mem_iff,rfl,pw2 (lt hxy h),rfl⟩
 |[x,y,z],_,hn=>
  have hxy:=nm hn y (.head _);have hxz:=nm hn z (.tail _ (.head _));have hyz:=nm (List.nodup_cons.mp hn).2 z (.head _);have hT:(fun i j=>ltD false 8 σ (([x,y,z].map (kV o)).getD i .none) (([x,y,z].map (kV o)).getD j .none))=T3 (mlt o x.1 y.1) (mlt o x.1 z.1) (mlt o y.1 z.1):=by
   funext i j
   match i,j with
   |0,0=>exact Zs ho x
   |0,1=>exact ltkV ho x y hxy
   |1,0=>exact sw hxy
   |1,1=>exact Zs ho y
   |0,2=>exact ltkV ho x z hxz
   |2,0=>exact sw hxz
   |1,2=>exact ltkV ho y z hyz
   |2,1=>exact sw hyz
   |2,2=>exact Zs ho z
   |0,j+3|1,j+3|2,j+3|i+3,0|i+3,1|i+3,2|i+3,j+3=>rfl
  rw[run [x,y,z] (show¬3<2 by decide) (show 3<60 by decide),hT,show([x,y,z].map (kV o)).length=3 from rfl];have s1:[x,z,y].Perm [x,y,z]:=.cons x (.swap y z []);have s2:[y,z,x].Perm [y,x,z]:=.cons y (.swap x z []);have s3:[y,x,z].Perm [x,y,z]:=.swap x y [z];cases h1:mlt o x.1 y.1 with
  |true=>
   cases h2:mlt o x.1 z.1 with
   |true=>
    cases h3:mlt o y.1 z.1 with
    |true=>rw[t3_run.1];exact⟨[x,y,z],fun _=>Iff.rfl,rfl,pw3 h1 h2 h3,rfl⟩
    |false=>rw[t3_run.2.1];exact⟨[x,z,y],fun p=>s1.mem_iff,rfl,pw3 h2 h1 (lt hyz h3),rfl⟩
   |false=>
    cases h3:mlt o y.1 z.1 with
    |true=>have:=Jy h1 h3;rw[h2]at this;cases this
    |false=>rw[t3_run.2.2.1];exact⟨[z,x,y],fun p=>((List.Perm.swap x z [y]).trans s1).mem_iff,rfl,pw3 (lt hxz h2) (lt hyz h3) h1,rfl⟩
  |false=>
   cases h2:mlt o x.1 z.1 with
   |true=>
    cases h3:mlt o y.1 z.1 with
    |true=>rw[t3_run.2.2.2.1];exact⟨[y,x,z],fun p=>s3.mem_iff,rfl,pw3 (lt hxy h1) h3 h2,rfl⟩
    |false=>
     have:=Jy (Jy h2 (lt hyz h3)) (lt hxy h1);rw[Yl]at this;cases this
   |false=>
    cases h3:mlt o y.1 z.1 with
    |true=>rw[t3_run.2.2.2.2.1];exact⟨[y,z,x],fun p=>(s2.trans s3).mem_iff,rfl,pw3 h3 (lt hxy h1) (lt hxz h2),rfl⟩
    |false=>rw[t3_run.2.2.2.2.2];exact⟨[z,y,x],fun p=>((List.Perm.swap y z [x]).trans (s2.trans s3)).mem_iff,rfl,pw3 (lt hyz h3) (lt hxz h2) (lt hxy h1),rfl⟩
end
noncomputable def RedRun(o:Nat)(kept:List PG)(P:List PG→Prop):List (Qx×Nat)→List PG→Prop
 |[],found=>P found
 |(_,t)::ks,found=>∃A,kept[t]?=some A∧∃nd r,Jz o (mkB found) A.1 [] nd r∧nd≤800∧∃l,Jk o r=some l∧Ok r∧Sz r∧sz (co r l)⁻¹ ∧PG1 o (Gv r (co r l)⁻¹,l)∧RedRun o kept P ks (found++[(Gv r (co r l)⁻¹,l)])
noncomputable def idxL{α:Type}:Nat→List α→List (Nat×α)
 |_,[]=>[]
 |t,x::r=>(t,x)::idxL (t+1) r
noncomputable def rF(nf nk o:Nat):AL:=[(7,.loc nf),(37,.loc nk),(0,.str o)]
theorem lp_snoc{bs:List Be}{x:Be}:(bs.map fun b=>V.loc b.p)++[V.loc x.p]=lp (bs++[x]):=map_snoc (f:=fun b:Be=>V.loc b.p)
theorem Gj.snoc{o:Nat}{bs:List Be}{nf:Nat}{σ:Sto}{x:Be}(H:Gj o bs nf σ)(h:σ[x.p]?=some (.dict (Qy x.G)))(hp:PG1 o (x.G,x.m))(hl:bs.length<100):Gj o (bs++[x]) nf (σ.set nf (.list (lp (bs++[x])))):=
 have mem:∀{Q:Be→Prop},(∀b∈bs,Q b)→Q x→∀b∈bs++[x],Q b:=fun h1 h2 b hb=>(Qh hb).elim (h1 b) fun hb=>Q2 hb▸h2
 {lst:=G7 H.lst,at_:=mem (fun b hb=>G8 H.lst (H.at_ b hb)) (G8 H.lst h),ok:=mem H.ok hp.1,szG:=mem H.szG hp.2.1,ld:=mem H.ld hp.2.2.1,one:=mem H.one hp.2.2.2,len:=by rw[Q8];exact hl}
section
variable{N k:Nat}{σ:Sto}{Φ:Calls}{n na nb nl nw nk nq ns nf:Nat}{T A B F:Tm}{m p a b:Qx}{o:Nat}{bs:List Be}
theorem Gj.lock{xs:List V}(H:Gj o bs ns σ)(h:σ[nq]?=some (.list xs))(hne:nq≠ns):Gj o bs ns (σ.set nq (.ro xs)):=
 {H with lst:=Gr H.lst hne,at_:=fun b hb=>Jf h (H.at_ b hb)}
theorem red_loop(hN:Big N)(ho:o<3){kb:List Be}{P:List PG→Prop}{K:List (Qx×Nat)}(hK:Gj o kb nk σ)(hQ:σ[nq]?=some (.list (K.map (kV o))))(hne:nq≠nk):∀(ks:List (Qx×Nat)) (fb:List Be) (τ:Sto),RedRun o (kb.map gm) P ks (fb.map gm)→fb.length+ks.length≤50→Gj o fb nf (σ.set nq (.ro (K.map (kV o)))++τ)→σ.length≤nf→
 ∃τ' fb',RF (G0 prog N (k+9)) N (sL nq (K.map (kV o))) (.many [17,5]) (bo 34 [4]) (ks.map (kV o)) (rF nf nk o) (σ.set nq (.ro (K.map (kV o)))++τ) .next (rF nf nk o) (σ++τ')∧Gj o fb' nf (σ++τ')∧P (fb'.map gm):=by
 intro ks;induction ks with
 |nil=>
  intro fb τ hR hl hB hge;have hnqro:(σ.set nq (.ro (K.map (kV o)))++τ)[nq]?=some (.ro (K.map (kV o))):=Qw (G7 hQ);have hfree:∀{i:Nat} {ob:Ob},ob≠.ro (K.map (kV o))→(σ.set nq (.ro (K.map (kV o)))++τ)[i]?=some ob→(σ++τ)[i]?=some ob:=fun{i ob} hi h=>by
   have:=Gr (o':=.list (K.map (kV o))) h (m:=nq) fun e=>hi (Option.some.inj (h.symm.trans (e▸hnqro)));rwa[free_app hQ]at this
  exact⟨τ,fb,RF.nil (Jn hnqro) (free_ro hQ),{hB with lst:=hfree (fun h=>nomatch h) hB.lst,at_:=fun b hb=>hfree (fun h=>nomatch h) (hB.at_ b hb)},hR⟩
 |cons x ks ih=>
  obtain⟨mm,t⟩:=x;intro fb τ hR hl hB hge;have hl:fb.length+(ks.length+1)≤50:=hl;refine cps fun qG qK=>?_;obtain⟨AG,hA,nd,r,run,hnd,l,hlr,okr,szr,szi,hpg,hnext⟩:=hR;rw[Qd]at hA;refine z12 (Qo hA) fun x hx hxe=>?_;subst hxe;have hxm:=Qf hx;let S0:Sto:=σ.set nq (.ro (K.map (kV o)))++τ;have hK0:Gj o kb nk S0:=(hK.lock hQ hne).app τ;refine z22 (c_rest (N:=N) (k:=k+1) (σ:=S0) hN ho hB (hK0.at_ x hxm) (hK0.ok x hxm) (run.change (by rw[mkB_gm])) hnd) fun τ1 nr e1 h1=>?_;refine z23 (c_monic (N:=N) (k:=k+4) (σ:=S0++τ1) hN ho h1 okr szr hlr szi) fun τ2 nm2 e2 h2 _=>?_;have hB2:=(hB.app τ1).app τ2;let nbe:Be:=⟨nm2,Gv r (co r l)⁻¹,l⟩
  have hbl:fb.length<100:=Nat.lt_of_le_of_lt (Nat.le_trans (Nat.le_add_right _ _) hl) (by decide);have happ:Ji .append (.loc nf) [.loc nm2] (S0++τ1++τ2)=some (.none,(S0++τ1++τ2).set nf (.list (lp (fb++[nbe])))):=(Ye hB2.lst (by rw[Qi];exact Nat.lt_trans hbl (by decide))).trans (congrArg (fun z=>some (V.none,List.set (S0++τ1++τ2) nf (Ob.list z))) (lp_snoc (x:=nbe)));refine z11 (Yb (Qz (Qz ⟨τ,rfl⟩)) (by rw[List.length_set];exact hge):∃t,(S0++τ1++τ2).set nf (.list (lp (fb++[nbe])))=σ.set nq (.ro (K.map (kV o)))++t) fun t' ht'=>?_;have hsub:Jg (.loc nk) (.int (t:Int)) S0=some (.loc x.p):=Y0 hK0.lst (by rw[Qd,hx];rfl) (by rw[Qi];exact Nat.le_trans hK.len (by decide));have hBn:=hB2.snoc (x:=nbe) h2 hpg hbl;rw[ht']at hBn;refine z23 (ih (fb++[nbe]) t' (by rw[Qr];exact hnext) (by rw[Q8,Nat.add_assoc,List.length_singleton,Nat.add_comm 1];exact hl) hBn hge) fun τ' fb' g1 g3 g4=>?_;refine qK ?_;rw[←ht']at g1;exact⟨τ',fb',RF.cons (Jn (Qw (G7 hQ))) rfl (wB (G0 prog N (k+9)) N (bo 34 [4]) [(7,.loc nf),(37,.loc nk),(0,.str o),(17,okV o mm),(5,.int (t:Int))] S0 hsub e1 e2 (kind2 hB.lst hB2.lst) happ) trivial [7,37,0] g1,g3,g4⟩
theorem keyed_loop(ho:o<3)(H:Gj o bs ns σ):∃τ,RE (G0 prog N (k+2)) (.lcomp (.tup (.cons (.call 0 (.cons (.var 0) (.cons (.sub (.call 22 (.cons (.var 2) (.cons (.var 0) .nil))) (.int 0)) .nil))) (.cons (.var 5) .nil))) (.many [5,2]) .enum (.var 37) .no) [(35,.loc na),(0,.str o),(37,.loc ns)] σ (.loc (σ++τ).length) (σ++τ++[.list (((idxL 0 bs).map fun x=>(x.2.m,x.1)).map (kV o))]):=by
 have hen:∀(t:Nat) (l:List Be),Uj t (l.map fun b=>V.loc b.p)=(idxL t l).map fun x=>V.tup [.int (x.1:Int),.loc x.2.p]:=by
  intro t l;induction l generalizing t with
  |nil=>rfl
  |cons x r ih=>exact congrArg _ (ih (t+1))
 have hmem:∀(t:Nat) (l:List Be) x,x∈idxL t l→x.2∈l:=by
  intro t l;induction l generalizing t with
  |nil=>exact fun x hx=>nomatch hx
  |cons y r ih=>
   intro x hx;rcases Q5 hx with rfl|hx
   ·exact .head _
   ·exact .tail _ (ih _ x hx)
 have hlen:∀(t:Nat) (l:List Be),(idxL t l).length=l.length:=by
  intro t l;induction l generalizing t with
  |nil=>rfl
  |cons y r ih=>exact congrArg (· +1) (ih (t+1))
 have hfl:(idxL 0 bs).flatMap (fun x:Nat×Be=>[kV o (x.2.m,x.1)])=((idxL 0 bs).map fun x=>(x.2.m,x.1)).map (kV o):=by rw[List.map_map];exact flat1 _ _
 rw[←hfl];refine(aloop0 (H:=fun ρ=>Has ρ [(35,.loc na),(0,.str o),(37,.loc ns)]) (src:=sE ns (lp bs)) (σ:=σ) (σ₁:=σ.set ns (.ro (lp bs))) (turn:=lT (G0 prog N (k+2)) (.tup (.cons (.call 0 (.cons (.var 0) (.cons (.sub (.call 22 (.cons (.var 2) (.cons (.var 0) .nil))) (.int 0)) .nil))) (.cons (.var 5) .nil))) (.many [5,2]) .no) (iv:=fun x:Nat×Be=>V.tup [.int (x.1:Int),.loc x.2.p]) (g:=fun x:Nat×Be=>[kV o (x.2.m,x.1)]) (fun τ=>Jn (Qw (G7 H.lst))) (fun τ=>free_ro H.lst) (idxL 0 bs) (fun x hx acc τ ha=>?_) (fun _ _=>Qs _) (by rw[hlen];exact Nat.le_trans H.len (by decide))).imp fun τ e=>RE.lc (wE (G0 prog N (k+2)) (.var 37) [(35,.loc na),(0,.str o),(37,.loc ns)] σ) (esrc_ok H.lst) ?_
 ·have hb:=hmem 0 bs x hx;refine z11 (c_lead (N:=N) (k:=k) (σ:=σ.set ns (.ro (lp bs))++τ) (na:=x.2.p) ho (Qw (Jf H.lst (H.at_ x.2 hb))) (H.ld x.2 hb)) fun τ1 h1=>?_;refine z11 (c_order_key (N:=N) (k:=k+1) (σ:=σ.set ns (.ro (lp bs))++τ++τ1) ho x.2.m) fun τ2 h2=>⟨τ++τ1++τ2,?_⟩
  rw[←Qb,←Qb];exact RT.one rfl (wE _ (.tup (.cons (.call 0 (.cons (.var 0) (.cons (.sub (.call 22 (.cons (.var 2) (.cons (.var 0) .nil))) (.int 0)) .nil))) (.cons (.var 5) .nil))) [(35,.loc na),(0,.str o),(37,.loc ns),(5,.int (x.1:Int)),(2,.loc x.2.p)] _ h1 rfl h2) (Yw ha)
 ·rw[←hen]at e;exact e
end
noncomputable def minG(gs:List PG):List PG:=Ua (gs.map (·.2)) (·.2) 0 gs
theorem minR_map{α β:Type}{L:List Qx}{f:α→Qx}{g:β→Qx}{h:α→β}(e:∀x,g (h x)=f x):∀(t:Nat) (l:List α),(Ua L f t l).map h=Ua L g t (l.map h)
 |_,[]=>rfl
 |t,x::r=>by
  show(if keepB L t (f x)=true then x::Ua L f (t+1) r else Ua L f (t+1) r).map h=if keepB L t (g (h x))=true then h x::Ua L g (t+1) (r.map h)else Ua L g (t+1) (r.map h)
  rw[e,←minR_map e];split<;>rfl
theorem minB_map(bs:List Be):(minB bs).map gm=minG (bs.map gm):=by
 unfold minB minG;rw[List.map_map];exact minR_map (f:=fun x:Be=>x.m) (g:=fun x:PG=>x.2) (h:=gm) (fun x=>rfl) 0 bs
noncomputable def keyL(gs:List PG):List (Qx×Nat):=(idxL 0 gs).map fun x=>(x.2.2,x.1)
theorem idxL_map{α β:Type}(f:α→β):∀(t:Nat) (l:List α),idxL t (l.map f)=(idxL t l).map fun x=>(x.1,f x.2)
 |_,[]=>rfl
 |t,x::r=>congrArg _ (idxL_map f (t+1) r)
theorem keyL_fst(gs:List PG):(keyL gs).map (·.1)=gs.map (·.2):=by
 unfold keyL;rw[List.map_map];have:∀(t:Nat) (l:List PG),(idxL t l).map ((fun x:Qx×Nat=>x.1)∘fun x=>(x.2.2,x.1))=l.map (·.2):=by
  intro t l;induction l generalizing t with
  |nil=>rfl
  |cons x r ih=>exact congrArg _ (ih (t+1))
 exact this 0 gs
noncomputable def FormOk(o:Nat)(P:List PG→Prop)(gs:List PG):Prop:=
 (minG gs).length≤3∧((minG gs).map (·.2)).Nodup∧∀ks:List (Qx×Nat),(∀p,p∈ks↔p∈keyL (minG gs))→ks.length=(minG gs).length→ks.Pairwise (fun x y=>mlt o x.1 y.1=true)→RedRun o (minG gs) P ks []
section
variable{N k:Nat}{σ:Sto}{Φ:Calls}{n na nb nl nw nk nq ns nf:Nat}{T A B F:Tm}{m p a b:Qx}{o:Nat}{bs:List Be}
theorem msort_ok{xs ys:List V}(h:σ[n]?=some (.list xs))(hs:Yr (σ.set n (.list [])) xs=some ys):Ji .sort (.loc n) [] σ=some (.none,σ.set n (.list ys)):=(mL h).trans (by
 unfold methL;dsimp only;rw[if_pos rfl,hs];rfl)
theorem c_form(hN:Big N)(ho:o<3)(H:Gj o bs ns σ){P:List PG→Prop}(hf:FormOk o P (bs.map gm)):
 ∃τ nf fb,G0 prog N (k+10) 34 [.loc ns,.str o] σ=some (.loc nf,σ++τ)∧Gj o fb nf (σ++τ)∧P (fb.map gm)∧σ.length≤nf:=by
 refine cps fun qG qK=>?_;refine z22 (c_minimal (N:=N) (k:=k+5) ho H) fun τ1 nk e1 hK=>?_;refine zA3 hf fun hl3 hnd hrun=>?_;rw[(minB_map bs).symm]at hl3 hnd hrun;refine z11 (keyed_loop (N:=N) (k:=k+7) (σ:=σ++τ1) (na:=ns) ho hK) fun τ2 e2=>?_;have hkeys:((idxL 0 (minB bs)).map fun x=>(x.2.m,x.1))=keyL ((minB bs).map gm):=by
  unfold keyL;rw[idxL_map,List.map_map];rfl
 rw[hkeys]at e2;let K0:=keyL ((minB bs).map gm);have hK0l:K0.length=((minB bs).map gm).length:=by
  have:=congrArg List.length (keyL_fst ((minB bs).map gm));rwa[Qi,Qi]at this
 let S2:Sto:=σ++τ1++τ2;let S3:Sto:=S2++[.list (K0.map (kV o))];have hq3:S3[S2.length]?=some (.list (K0.map (kV o))):=G1;refine z14 (sort_ok (σ:=S3.set S2.length (.list [])) ho K0 (by rw[hK0l];exact hl3) (by rw[show K0.map (·.1)=_ from keyL_fst _];exact hnd)) fun K hm hKl hsorted hsort=>?_;refine qK ?_;have e4:=msort_ok hq3 hsort;let S4:Sto:=S3.set S2.length (.list (K.map (kV o)));have hS4:S4=S2++[.list (K.map (kV o))]:=by
  show(S2++[Ob.list (K0.map (kV o))]).set S2.length _=_;rw[List.set_append_right _ _ (Qs _),Nat.sub_self];rfl
 have hq4:S4[S2.length]?=some (.list (K.map (kV o))):=G7 hq3;have hp4:∃t,S4=σ++t:=hS4▸Qz (Qz ⟨τ1,rfl⟩);have hK4:Gj o (minB bs) nk S4:=hS4▸(hK.app τ2).app _;have hnk:nk<S2.length:=J5 (Qw hK.lst);have hlock:(S4.set S2.length (.ro (K.map (kV o)))).length=S4.length:=List.length_set;have hKl3:K.length≤3:=hKl▸hK0l▸hl3;refine z23 (red_loop (N:=N) (k:=k) (σ:=S4) (nf:=S4.length) (P:=P) hN ho hK4 hq4 (Nat.ne_of_gt hnk) K [] [.list []] (hrun K hm (hKl.trans hK0l) hsorted) (Nat.le_trans (Nat.le_of_eq (Nat.zero_add _)) (Nat.le_trans hKl3 (by decide)))
  {lst:=by rw[←hlock];exact G1,at_:=fun b hb=>(nomatch hb),ok:=fun b hb=>(nomatch hb),szG:=fun b hb=>(nomatch hb),ld:=fun b hb=>(nomatch hb),one:=fun b hb=>(nomatch hb),len:=Nat.zero_le _} (Qs _)) fun τ5 fb g1 g3 g4=>?_
 have hs:=lsrc_ok (Qw (τ:=[.list []]) hq4);rw[set_app hq4]at hs;refine z11 (Qz (τ':=τ5) hp4) fun t ht=>⟨t,S4.length,fb,?_,ht▸g3,g4,J7 hp4⟩
 rw[←ht];exact wF N (k+9) 34 [.loc ns,.str o] σ e1 e2 rfl e4 (RF.for (wE (G0 prog N (k+9)) (.var 39) [(35,.loc ns),(0,.str o),(37,.loc nk),(39,.loc S2.length),(7,.loc S4.length)] (S4++[Ob.list []])) hs [7,37,0] g1)
theorem c_basis(hN:Big N)(ho:o<3){fs:List Be}(H:InAt o fs ns σ)(hm:∀f∈fs,PG1 o (Y2 f)){P:List PG→Prop}{n:Nat}(hn:n≤40)(hl:fs.length≤20)(h:GOk o (FormOk o P) n (fs.map Y2) (initW fs.length)):
 ∃τ nf fb,G0 prog N (k+11) 35 [.loc ns,.str o,.int 40] σ=some (.loc nf,σ++τ)∧Gj o fb nf (σ++τ)∧P (fb.map gm)∧σ.length≤nf:=by
 refine z33 (c_groebner (N:=N) (k:=k) hN ho H hm hn hl h) fun τ1 nb bs' e1 hB hP=>?_;refine z34 (c_form (N:=N) (k:=k) hN ho hB hP) fun τ2 nf fb e2 hF hP2 hge=>?_;rw[Qb]at e2 hF;exact⟨τ1++τ2,nf,fb,wF N (k+10) 35 [.loc ns,.str o,.int 40] σ e1 e2,hF,hP2,Nat.le_trans (J7 ⟨τ1,rfl⟩) hge⟩
end
abbrev PF:=Qx→Rat
noncomputable def sh(s:Qx)(f:PF):PF:=fun n=>if Gf s n=true then f (Gu n s)else 0
theorem Yy(a s:Qx):Gu (Gq a s) s=a:=Prod.ext (Nat.add_sub_cancel ..) (Nat.add_sub_cancel ..)
theorem Zr(a s:Qx):Gf s (Gq a s)=true:=Gd.mpr ⟨Nat.le_add_left ..,Nat.le_add_left ..⟩
theorem fft{a:Bool}{P:Prop}(h:a=false)(h':a=true):P:=nomatch h.symm.trans h'
theorem mdiv_self(a:Qx):Gf a a=true:=Gd.mpr ⟨Qs _,Qs _⟩
theorem madd_assoc(a b c:Qx):Gq (Gq a b) c=Gq a (Gq b c):=Prod.ext (Nat.add_assoc ..) (Nat.add_assoc ..)
theorem Ju(a b:Qx):Gq a b=Gq b a:=Prod.ext (Nat.add_comm ..) (Nat.add_comm ..)
theorem sh_at(s:Qx)(f:PF)(n:Qx):sh s f (Gq n s)=f n:=(if_pos (Zr n s)).trans (congrArg f (Yy ..))
theorem sh_no{s:Qx}{f:PF}{n:Qx}(h:¬Gf s n=true):sh s f n=0:=if_neg h
theorem div_case{s n:Qx}{P:Qx→Prop}(k:∀u,P (Gq u s))(h:¬Gf s n=true→P n):P n:=
 (Decidable.em (Gf s n=true)).elim (fun e=>J2 e▸k _) h
theorem sh_sh(s t:Qx)(f:PF):sh s (sh t f)=sh (Gq t s) f:=by
 funext n;refine div_case (s:=s) (n:=n) (P:=fun n=>sh s (sh t f) n=sh (Gq t s) f n) (fun u=>?_) fun h=>?_
 ·refine(sh_at ..).trans (div_case (s:=t) (n:=u) (P:=fun u=>sh t f u=sh (Gq t s) f (Gq u s)) (fun v=>?_) fun h=>?_)
  ·rw[sh_at,madd_assoc,sh_at]
  ·rw[sh_no h,sh_no fun e=>h (Gd.mpr ⟨Nat.le_of_add_le_add_right (Gd.mp e).1,Nat.le_of_add_le_add_right (Gd.mp e).2⟩)]
 ·rw[sh_no h,sh_no fun e=>h (Gd.mpr ⟨Nat.le_trans (Nat.le_add_left ..) (Gd.mp e).1,Nat.le_trans (Nat.le_add_left ..) (Gd.mp e).2⟩)]
theorem sh_zero(f:PF):sh (0,0) f=f:=by
 funext n;unfold sh;rw[if_pos (Gd.mpr ⟨Nat.zero_le _,Nat.zero_le _⟩)];congr 1
theorem sh_add(s:Qx)(f g:PF):sh s (fun n=>f n+g n)=fun n=>sh s f n+sh s g n:=by
 funext n;unfold sh;split<;>grind
theorem sh_smul(s:Qx)(c:Rat)(f:PF):sh s (fun n=>c*f n)=fun n=>c*sh s f n:=by
 funext n;unfold sh;split<;>grind
theorem U5(n:Qx):co [] n=0:=rfl
theorem Gi{T:Tm}(ok:Ok T){n:Qx}:n∈keys T↔co T n≠0:=by
 constructor
 ·intro h;have:=co_mem h;exact ok.nz _ (Us this)
 ·intro h;cases hg:Jb T n with
  |none=>unfold co at h;rw[hg]at h;simp at h
  |some x=>exact Qj (Us hg)
theorem co_map{T:Tm}{f:Rat→Rat}(h0:f 0=0)(n:Qx):co (T.map fun x=>(x.1,f x.2)) n=f (co T n):=by
 induction T with
 |nil=>rw[Qm,U5,h0]
 |cons x r ih=>
  obtain⟨a,b⟩:=x;unfold co at ih⊢;simp only[Q7,Jb];split
  ·rfl
  ·exact ih
theorem co_tneg(T:Tm)(n:Qx):co (tneg T) n= -co T n:=co_map (f:=fun x=> -x) (by grind) n
theorem Uq(T:Tm)(q:Rat)(n:Qx):co (Gv T q) n=co T n*q:=by
 unfold Gv;split
 ·rename_i h;rw[h,U5];grind
 ·exact co_map (f:=fun x=>x*q) (by grind) n
theorem co_tshift(T:Tm)(s:Qx)(q:Rat)(n:Qx):co (Gw T s q) n=q*sh s (co T) n:=by
 unfold Gw;split
 ·rename_i h;rw[h,U5];grind
 ·induction T with
  |nil=>unfold sh;rw[Qm,U5,U5];split<;>grind
  |cons x r ih=>
   obtain⟨a,b⟩:=x;unfold co sh at ih⊢;simp only[Q7,Jb];by_cases h:Gq a s=n
   ·subst h;rw[if_pos rfl,if_pos (Zr a s),Yy,if_pos rfl];simp;grind
   ·rw[if_neg h,ih];by_cases h2:Gf s n=true
    ·rw[if_pos h2,if_pos h2];have:a≠Gu n s:=fun e=>h (by rw[e];exact J2 h2);rw[if_neg this]
    ·rw[if_neg h2,if_neg h2]
theorem co_tdel{T:Tm}(hn:(keys T).Nodup)(m n:Qx):co (tdel T m) n=if n=m then 0 else co T n:=by
 unfold co;rw[tget_tdel hn];by_cases h:m=n
 ·subst h;simp
 ·rw[if_neg h,if_neg (Ne.symm h)]
theorem co_tput{T:Tm}(m:Qx)(q:Rat)(n:Qx):co (tput T m q) n=if n=m then q else co T n:=by
 unfold co;rw[tget_tput];by_cases h:m=n
 ·subst h;simp
 ·rw[if_neg h,if_neg (Ne.symm h)]
theorem Ok.tdel{T:Tm}(h:Ok T)(m:Qx):Ok (tdel T m):=
 ⟨(U9.map _).nodup h.nodup,fun x hx=>h.small x (U9.subset hx),fun x hx=>h.nz x (U9.subset hx)⟩
theorem Ok.tput{T:Tm}(h:Ok T){m:Qx}{q:Rat}(hm:m.1<6∧m.2<6)(hq:q≠0)(hnew:m∉keys T):Ok (tput T m q):=by
 rw[tput_new hnew];refine⟨?_,?_,?_⟩
 ·simp only[keys,Qr,Q7,Qm];rw[List.nodup_append];refine⟨h.nodup,by simp,fun a ha b hb e=>?_⟩;rw[Q2 hb]at e;exact hnew (e▸ha)
 ·intro x hx;rcases Qh hx with hx|hx
  ·exact h.small x hx
  ·rw[Q2 hx];exact hm
 ·intro x hx;rcases Qh hx with hx|hx
  ·exact h.nz x hx
  ·rw[Q2 hx];exact hq
theorem Ok.scale{T:Tm}(h:Ok T){q:Rat}(hq:q≠0):Ok (Gv T q):=by
 unfold Gv;rw[if_neg hq];exact⟨by have:=h.nodup;simpa[keys,Function.comp_def]using this,fun x hx=>by
  obtain⟨y,hy,rfl⟩:=Qg hx;exact h.small y hy,fun x hx=>by
  obtain⟨y,hy,rfl⟩:=Qg hx;have:=h.nz y hy;show y.2*q≠0;intro h0;exact(Rat.mul_eq_zero.mp h0).elim this hq⟩
theorem Ok.shift{T:Tm}(h:Ok T){s:Qx}{q:Rat}(hs:∀n∈keys T,n.1+s.1<6∧n.2+s.2<6):Ok (Gw T s q):=by
 unfold Gw;split
 ·exact⟨List.nodup_nil,fun x hx=>(by cases hx),fun x hx=>by cases hx⟩
 ·rename_i hq;refine⟨?_,fun x hx=>?_,fun x hx=>?_⟩
  ·rw[show keys (T.map fun x:Qx×Rat=>(Gq x.1 s,x.2*q))=(keys T).map fun m=>Gq m s by simp[keys,Function.comp_def]];exact List.pairwise_map.mpr (List.Pairwise.imp (fun h e=>h (by simp only[Gq,Prod.mk.injEq]at e;exact Prod.ext (by exact Nat.le_antisymm (Gh (Y6 _ _ _) 1 (.var 0) (.var 1) [Gp 1 (.add (.var 0) (.var 2)) (.add (.var 1) (.var 2))] rfl e.1) (Gh (Y6 _ _ _) 1 (.var 0) (.var 1) [Gp 1 (.add (.var 0) (.var 2)) (.add (.var 1) (.var 2))] rfl (Eq.symm e.1))) (by exact Nat.le_antisymm (Gh (Y6 _ _ _) 1 (.var 0) (.var 1) [Gp 1 (.add (.var 0) (.var 2)) (.add (.var 1) (.var 2))] rfl e.2) (Gh (Y6 _ _ _) 1 (.var 0) (.var 1) [Gp 1 (.add (.var 0) (.var 2)) (.add (.var 1) (.var 2))] rfl (Eq.symm e.2))))) h.nodup)
  ·obtain⟨y,hy,rfl⟩:=Qg hx;exact hs y.1 (Qj hy)
  ·obtain⟨y,hy,rfl⟩:=Qg hx;intro h0;exact(Rat.mul_eq_zero.mp h0).elim (h.nz y hy) hq
theorem keys_tscale{T:Tm}{q:Rat}(hq:q≠0):keys (Gv T q)=keys T:=by
 unfold Gv;rw[if_neg hq];simp[keys,Function.comp_def]
theorem top_of{o:Nat}{L:List Qx}{m n:Qx}(h1:IsTop o m L)(h2:IsTop o n L):m=n:=by
 rcases h1.2 n h2.1 with h|h
 ·exact h.symm
 ·rcases h2.2 m h1.1 with h'|h'
  ·exact h'
  ·have:=Jy h h';rw[Yl]at this;cases this
theorem tlead_iff{o:Nat}{T:Tm}{m:Qx}:Jk o T=some m↔IsTop o m (keys T):=by
 constructor
 ·exact Go
 ·intro h;cases hl:Jk o T with
  |none=>
   have:=tlead_none hl;subst this;exact absurd h.1 (by simp[keys])
  |some n=>rw[top_of (Go hl) h]
inductive Rp(G:List PG)(Q:Qx→Prop):PF→Prop
 |zero:Rp G Q (fun _=>0)
 |add {f:PF} (c:Rat) (s:Qx) (g:PG):g∈G→Q (Gq s g.2)→Rp G Q f→Rp G Q (fun n=>f n+c*sh s (co g.1) n)
theorem Rp.cast{G:List PG}{Q:Qx→Prop}{f g:PF}(h:Rp G Q f)(e:∀n,f n=g n):Rp G Q g:=by
 have:f=g:=funext e;rwa[←this]
theorem Rp.mono{G G':List PG}{Q Q':Qx→Prop}{f:PF}(h:Rp G Q f)(hG:∀g∈G,g∈G')(hQ:∀m,Q m→Q' m):Rp G' Q' f:=by
 induction h with
 |zero=>exact .zero
 |add c s g hg hq _ ih=>exact .add c s g (hG g hg) (hQ _ hq) ih
theorem Rp.plus{G:List PG}{Q:Qx→Prop}{f g:PF}(h1:Rp G Q f)(h2:Rp G Q g):Rp G Q (fun n=>f n+g n):=by
 induction h2 with
 |zero=>exact h1.cast fun n=>by grind
 |add c s g hg hq _ ih=>exact(Rp.add c s g hg hq ih).cast fun n=>by grind
theorem Rp.smul{G:List PG}{Q:Qx→Prop}{f:PF}(a:Rat)(h:Rp G Q f):Rp G Q (fun n=>a*f n):=by
 induction h with
 |zero=>exact Rp.zero.cast fun n=>by grind
 |add c s g hg hq _ ih=>exact(Rp.add (a*c) s g hg hq ih).cast fun n=>by grind
theorem Rp.one{G:List PG}{Q:Qx→Prop}(c:Rat)(s:Qx)(g:PG)(hg:g∈G)(hq:Q (Gq s g.2)):Rp G Q (fun n=>c*sh s (co g.1) n):=
 (Rp.add c s g hg hq .zero).cast fun n=>by grind
theorem Rp.shift{G:List PG}{Q Q':Qx→Prop}{f:PF}(t:Qx)(h:Rp G Q f)(hQ:∀m,Q m→Q' (Gq m t)):Rp G Q' (sh t f):=by
 induction h with
 |zero=>exact Rp.zero.cast fun n=>by unfold sh;split<;>rfl
 | @add f c s g hg hq _ ih=>
  have h1:=Rp.add c (Gq s t) g hg (by
   have:=hQ _ hq;rw[madd_assoc,Ju g.2 t,←madd_assoc]at this;exact this) ih
  refine h1.cast fun n=>?_;rw[sh_add t f (fun n=>c*sh s (co g.1) n),sh_smul t c (sh s (co g.1)),sh_sh]
noncomputable def lexL:List Qx:=[(3,0),(2,1),(2,0),(1,2),(1,1),(1,0),(0,3),(0,2),(0,1),(0,0)]
noncomputable def grL:List Qx:=[(3,0),(2,1),(1,2),(0,3),(2,0),(1,1),(0,2),(1,0),(0,1),(0,0)]
noncomputable def mons(o:Nat):List Qx:=if o=0 then lexL else grL
theorem mlt_one{o:Nat}(h:o≠0)(a b:Qx):mlt o a b=mlt 1 a b:=by rw[mlt_eq,mlt_eq,if_neg h,if_neg (by decide)]
theorem mons_sorted(o:Nat):(mons o).Pairwise (fun a b=>mlt o b a=true):=by
 unfold mons;by_cases h:o=0
 ·subst h;rw[if_pos rfl];decide
 ·rw[if_neg h];have:grL.Pairwise (fun a b=>mlt 1 b a=true):=by decide
  exact this.imp fun hab=>by rw[mlt_one h];exact hab
theorem mem_mons{o:Nat}{m:Qx}:m∈mons o↔m.1+m.2≤3:=by
 have key:∀L:List Qx,((List.range 4).all fun a=>(List.range 4).all fun b=>decide (3<a+b)||L.contains (a,b))=true→(∀x∈L,x.1+x.2≤3)→(m∈L↔m.1+m.2≤3):=fun L h1 h2=>⟨h2 m,fun h=>by
  have g1:=Ql h1 m.1 (List.mem_range.mpr (by exact Jl (G6 _ _) 1 (.var 0) (.num 4) [Gb 1 (.add (.var 0) (.var 1)) (.num 3)] rfl h));have g2:=Ql g1 m.2 (List.mem_range.mpr (by exact Jl (G6 _ _) 1 (.var 0) (.num 4) [Gb 1 (.add (.var 1) (.var 0)) (.num 3)] rfl h));rw[Bool.or_eq_true,Q9,List.contains_iff_mem]at g2;rcases g2 with g2|g2
  ·exact absurd h (Nat.not_le.mpr g2)
  ·exact g2⟩
 unfold mons;split
 ·exact key lexL (by decide) (by decide)
 ·exact key grL (by decide) (by decide)
noncomputable def HB(h:Nat)(D:Int)(f:PF):Prop:=∀m,∃z:Int,f m*(D:Rat)=(z:Rat)∧z.natAbs≤2^h
noncomputable def Hb(h:Nat)(f:PF):Prop:=∃D:Int,0<D∧D.natAbs≤2^h∧HB h D f
theorem HB.up{h h':Nat}{D:Int}{f:PF}(H:HB h D f)(hh:h≤h'):HB h' D f:=fun m=>
 let⟨z,h1,h2⟩:=H m;⟨z,h1,Nat.le_trans h2 (Nat.pow_le_pow_right (by decide) hh)⟩
theorem log2_le{x h:Nat}(hx:x≤2^h):x.log2≤h:=by
 by_cases h0:x=0
 ·subst h0;simp
 ·have:x<2^(h+1):=by rw[Nat.pow_succ];have:=Nat.pow_pos (n:=h) (show 0<2 by decide);exact Jl (G6 _ _) 1 (.var 0) (.mulR (.var 1) 2) [Gb 1 (.var 0) (.var 1),Ge 1 (.num 0) (.var 1)] rfl hx this
  have:=(Nat.log2_lt h0).mpr this;exact Gh (G6 _ _) 1 (.var 0) (.var 1) [Ge 1 (.var 0) (.add (.var 1) (.num 1))] rfl this
theorem sz_of{q:Rat}{D z:Int}{h:Nat}(hD:0<D)(hDb:D.natAbs≤2^h)(e:q*(D:Rat)=(z:Rat))(hz:z.natAbs≤2^h)(hh:h<200000):sz q:=by
 have hD':(D:Rat)≠0:=by
  intro h0;have:(D:Rat)=((0:Int):Rat):=h0;exact absurd (Rat.intCast_inj.mp this) (Int.ne_of_gt hD)
 have hq:q=Rat.divInt z D:=by
  rw[Rat.divInt_eq_div,←e];grind
 have g1:q.num.natAbs≤z.natAbs:=by
  rw[hq,Rat.num_divInt,Int.sign_eq_one_of_pos hD,Int.one_mul];exact Int.natAbs_ediv_le_natAbs _ _
 have g2:q.den≤D.natAbs:=by
  rw[hq,Rat.den_divInt,if_neg (Int.ne_of_gt hD)];exact Nat.div_le_self _ _
 exact⟨by have:=log2_le (Nat.le_trans g1 hz);exact Jl (G6 _ _) 1 (.var 0) (.num 200000) [Ge 1 (.var 1) (.num 200000),Gb 1 (.var 0) (.var 1)] rfl hh this,by have:=log2_le (Nat.le_trans g2 hDb);exact Jl (G6 _ _) 1 (.var 0) (.num 200000) [Ge 1 (.var 1) (.num 200000),Gb 1 (.var 0) (.var 1)] rfl hh this⟩
theorem Hb.szAt{h:Nat}{f:PF}(H:Hb h f)(hh:h<200000)(m:Qx):sz (f m):=by
 refine z13 H fun D h1 h2 h3=>?_;refine z12 (h3 m) fun z e hz=>?_;exact sz_of h1 h2 e hz hh
theorem Hb.Sz{h:Nat}{T:Tm}(H:Hb h (co T))(ok:Ok T)(hh:h<200000):Sz T:=fun x hx=>by
 have:=H.szAt hh x.1;have e:co T x.1=x.2:=by unfold co;rw[Y5 ok.nodup (show(x.1,x.2)∈T from hx)];rfl
 rwa[e]at this
theorem Jo{a b:Int}{p q:Nat}(ha:a.natAbs≤2^p)(hb:b.natAbs≤2^q):(a*b).natAbs≤2^(p+q):=by
 rw[Int.natAbs_mul,Nat.pow_add];exact Nat.mul_le_mul ha hb
theorem natAbs_sub_le{a b:Int}{p:Nat}(ha:a.natAbs≤2^p)(hb:b.natAbs≤2^p):(a-b).natAbs≤2^(p+1):=by
 have:(a-b).natAbs≤a.natAbs+b.natAbs:=Int.natAbs_neg b▸Int.sub_eq_add_neg▸Int.natAbs_add_le ..;rw[Nat.pow_succ];exact Gh (lctx4 _ _ _ _) 1 (.var 0) (.mulR (.var 1) 2) [Gb 1 (.var 2) (.var 1),Gb 1 (.var 3) (.var 1),Gb 1 (.var 0) (.add (.var 2) (.var 3))] rfl ha hb this
theorem pow_mono2{a b:Nat}(h:a≤b):2^a≤2^b:=Nat.pow_le_pow_right (by decide) h
theorem HB.mulD{h e:Nat}{D E:Int}{f:PF}(H:HB h D f)(hE:E.natAbs≤2^e):HB (h+e) (D*E) f:=fun m=>by
 refine z12 (H m) fun z h1 h2=>?_;refine⟨z*E,?_,Jo h2 hE⟩;rw[Rat.intCast_mul,Rat.intCast_mul,←h1];grind
theorem HB.shf{h:Nat}{D:Int}{f:PF}(H:HB h D f)(s:Qx):HB h D (sh s f):=fun m=>by
 unfold sh;split
 ·exact H _
 ·exact⟨0,by rw[Rat.zero_mul];rfl,Nat.zero_le _⟩
theorem HB.step{h e:Nat}{D E:Int}{f g:PF}{q:Rat}{zq:Int}(hD:D.natAbs≤2^h)(H:HB h D f)(hE:E.natAbs≤2^e)(Hg:HB e E g)(hq:q*(D:Rat)=(zq:Rat))(hzq:zq.natAbs≤2^h):HB (h+e+1) (D*E) (fun n=>f n-q*g n):=fun m=>by
 refine z12 (H m) fun z h1 h2=>?_;refine z12 (Hg m) fun y h3 h4=>?_;refine⟨z*E-zq*y,?_,natAbs_sub_le (Jo h2 hE) (Jo hzq h4)⟩;rw[Rat.intCast_sub,Rat.intCast_mul,Rat.intCast_mul,Rat.intCast_mul,←h1,←h3,←hq];grind
theorem HB.prod{h e:Nat}{D E:Int}{g:PF}{q:Rat}{zq:Int}(Hg:HB e E g)(hq:q*(D:Rat)=(zq:Rat))(hzq:zq.natAbs≤2^h):HB (h+e) (D*E) (fun n=>q*g n):=fun m=>by
 refine z12 (Hg m) fun y h3 h4=>?_;refine⟨zq*y,?_,Jo hzq h4⟩;rw[Rat.intCast_mul,Rat.intCast_mul,←h3,←hq];grind
noncomputable def Dc(g:PG):Prop:=g.2.1+g.2.2≤2∧∀n∈keys g.1,n.1+n.2≤g.2.1+g.2.2
noncomputable def Elt(o hg:Nat)(g:PG):Prop:=PG1 o g∧Dc g∧Hb hg (co g.1)
noncomputable def joint(h:Nat)(f g:PF):Prop:=∃D:Int,0<D∧D.natAbs≤2^h∧HB h D f∧HB h D g
theorem int_ne{D:Int}(h:0<D):(D:Rat)≠0:=fun h0=>by
 have:(D:Rat)=((0:Int):Rat):=h0;have:=Rat.intCast_inj.mp this;lia
theorem dstep_co{left:Tm}{b:Be}{m:Qx}(okl:Ok left)(okS:Ok (Gw b.G (Gu m b.m) (co left m)))(n:Qx):co (dstep left b m) n=co left n-co left m*sh (Gu m b.m) (co b.G) n:=by
 unfold dstep;rw[tsum_co okl okS.neg.small okS.neg.nodup,co_tneg,co_tshift];grind
theorem sh_ne{s:Qx}{f:PF}{n:Qx}{P:Qx→Prop}(h:sh s f n≠0)(k:∀u,f u≠0→P (Gq u s)):P n:=
 div_case (s:=s) (n:=n) (P:=fun n=>sh s f n≠0→P n) (fun u h=>k u (sh_at s f u▸h)) (fun e h=>absurd (sh_no e) h) h
theorem sh_lead{o:Nat}{g:PG}{s m:Qx}(hl:Jk o g.1=some g.2)(hs:Gq s g.2=m){n:Qx}(ok:Ok g.1)(h:sh s (co g.1) n≠0):n=m∨mlt o n m=true:=
 hs▸Ju s g.2▸sh_ne (P:=fun n=>n=Gq g.2 s∨mlt o n (Gq g.2 s)=true) h fun u hu=>((Go hl).2 u ((Gi ok).mpr hu)).imp (fun e=>congrArg (Gq · s) e) fun e=>(mlt_add ..).trans e
theorem sh_top{g:PG}{s m:Qx}(h1:co g.1 g.2=1)(hs:Gq s g.2=m):sh s (co g.1) m=1:=by
 rw[←hs,Ju,sh_at,h1]
theorem sh_deg{g:PG}(ok:Ok g.1)(dc:Dc g){s n:Qx}(h:sh s (co g.1) n≠0):n.1+n.2≤g.2.1+g.2.2+(s.1+s.2):=
 sh_ne (P:=fun n=>n.1+n.2≤g.2.1+g.2.2+(s.1+s.2)) h fun u hu=>Nat.le_trans (Nat.le_of_eq (Nat.add_add_add_comm ..)) (Nat.add_le_add_right (dc.2 u ((Gi ok).mpr hu)) _)
theorem zero_at{r:Tm}(ok:Ok r){n:Qx}(h:n∉keys r):co r n=0:=Decidable.byContradiction fun e=>h ((Gi ok).mpr e)
theorem Hb.up{h h':Nat}{f:PF}(H:Hb h f)(hh:h≤h'):Hb h' f:=z13 H fun D a b c=>⟨D,a,Nat.le_trans b (pow_mono2 hh),c.up hh⟩
theorem deg_up{a b c d x y:Nat}(q1:a+b≤c+d)(q2:c≤x)(q3:d≤y)(q4:x+y≤3):a+(x-c)<6:=
 Jl (lctx8 _ _ _ _ _ _ _ 0) 1 (.add (.var 0) (.var 1)) (.num 6) [Gb 1 (.add (.var 0) (.var 2)) (.add (.var 3) (.var 4)),Gb 1 (.var 4) (.var 6),Gp 1 (.add (.var 1) (.var 3)) (.var 5),Gb 1 (.add (.var 5) (.var 6)) (.num 3)] rfl q1 q3 (Nat.sub_add_cancel q2) q4
theorem Ok.up{G:Tm}{p m:Qx}{c:Rat}(ok:Ok G)(dc:∀n∈keys G,n.1+n.2≤p.1+p.2)(hd:Gf p m=true)(hm:m.1+m.2≤3):Ok (Gw G (Gu m p) c):=
 have h:=Gd.mp hd
 ok.shift fun n hn=>⟨deg_up (dc n hn) h.1 h.2 hm,deg_up (a:=n.2) (b:=n.1) (Nat.add_comm n.1 n.2▸Nat.add_comm p.1 p.2▸dc n hn) h.2 h.1 (Nat.add_comm m.1 m.2▸hm)⟩
theorem sh_deg'{g:PG}(ok:Ok g.1)(dc:Dc g){m n:Qx}(hd:Gf g.2 m=true)(h:sh (Gu m g.2) (co g.1) n≠0):n.1+n.2≤m.1+m.2:=
 Nat.le_trans (sh_deg ok dc h) (Nat.le_of_eq ((Nat.add_add_add_comm ..).trans (congr (congrArg HAdd.hAdd (Nat.add_sub_of_le (Gd.mp hd).1)) (Nat.add_sub_of_le (Gd.mp hd).2))))
structure Tl(o:Nat)(m:Qx)(L:List Qx):Prop where
 lt:∀n∈L,mlt o n m=true
 mem:∀n,n.1+n.2≤3→mlt o n m=true→n∈L
theorem Tl.out{o:Nat}{m:Qx}{L:List Qx}(h:Tl o m L):m∉L:=fun hm=>fft Yl (h.lt m hm)
theorem mons_tl{o:Nat}{pre L:List Qx}{m:Qx}(h:mons o=pre++m::L):Tl o m L:=
 have hs:=List.pairwise_append.mp (h▸mons_sorted o)
 ⟨(List.pairwise_cons.mp hs.2.1).1,fun n hn hlt=>(Qh (h▸mem_mons.mpr hn)).elim (fun hp=>fft (Zq hlt) (hs.2.2 n hp m (.head _))) fun hp=>(Q5 hp).elim (fun e=>fft (Yl (o:=o) (a:=m)) ((congrArg (mlt o · m) e).symm.trans hlt)) id⟩
structure DivE(o:Nat)(gs:List PG)(hg:Nat)(L:List Qx)(left rest:Tm)(h nd:Nat)(r:Tm):Prop where
 le:nd≤L.length
 run:Jz o (mkB gs) left rest nd r
 ok:Ok r
 ks:∀n∈keys r,n∈keys rest∨(n∈L∧∀g∈gs,Gf g.2 n=false)
 hb:Hb (h+L.length*(hg+1)) (co r)
 rp:Rp gs (fun x=>x∈L) (fun n=>co left n+co rest n-co r n)
 out:∀n,n∉L→co r n=co rest n
 head:∀m L',L=m::L'→(∀g∈gs,Gf g.2 m=false)→co r m=co left m
section
variable{o hg h nd:Nat}{gs:List PG}{m:Qx}{L:List Qx}{left rest r:Tm}
theorem DivE.skip(E:DivE o gs hg L left rest h nd r)(T:Tl o m L)(h0:co left m=0)(hr:co rest m=0):DivE o gs hg (m::L) left rest h nd r where
 le:=Nat.le_succ_of_le E.le
 run:=E.run
 ok:=E.ok
 ks:=fun n hn=>(E.ks n hn).imp id fun x=>⟨.tail _ x.1,x.2⟩
 hb:=E.hb.up (Nat.add_le_add_left (Nat.mul_le_mul_right _ (Nat.le_succ _)) _)
 rp:=E.rp.mono (fun _ h=>h) fun _ h=>.tail _ h
 out:=fun n hn=>E.out n fun hh=>hn (.tail _ hh)
 head:=fun m' L' e _=>(List.cons.inj e).1▸((E.out m T.out).trans (hr.trans h0.symm))
theorem DivE.keep(T:Tl o m L)(okl:Ok left)(szL:Sz left)(hlead:Jk o left=some m)(hno:∀g∈gs,Gf g.2 m=false)(hf:fdv 0 ((mkB gs).map (·.m)) m=none)(hkd:∀n∈TK.keys (tdel left m),n∈L)(hnew:m∉TK.keys rest)(hr:co rest m=0)
 (E:DivE o gs hg L (tdel left m) (tput rest m (co left m)) h nd r):DivE o gs hg (m::L) left rest h (nd+1) r where
 le:=Nat.succ_le_succ E.le
 run:=.keep okl szL hlead hf (fun x hx=>T.lt x (hkd x hx)) E.run
 ok:=E.ok
 ks:=fun n hn=>(E.ks n hn).elim (fun h1=>by
  rw[keys_tput,if_neg hnew]at h1;exact(Qh h1).imp id fun(e:n∈[m])=>Q2 e▸⟨Q2 e▸ .head _,Q2 e▸hno⟩) fun x=>.inr ⟨.tail _ x.1,x.2⟩
 hb:=E.hb.up (Nat.add_le_add_left (Nat.mul_le_mul_right _ (Nat.le_succ _)) _)
 rp:=(E.rp.mono (fun _ h=>h) fun _ h=>.tail _ h).cast fun n=>by
  rw[co_tdel okl.nodup,co_tput];by_cases e:n=m
  ·rw[if_pos e,if_pos e,e,hr,Rat.zero_add,Rat.add_zero]
  ·rw[if_neg e,if_neg e]
 out:=fun n hn=>(E.out n fun hh=>hn (.tail _ hh)).trans ((co_tput ..).trans (if_neg fun e:n=m=>hn (e▸ .head _)))
 head:=fun m' L' e _=>(List.cons.inj e).1▸((E.out m T.out).trans ((co_tput ..).trans (if_pos rfl)))
theorem DivE.step{i:Nat}{b:Be}(T:Tl o m L)(okl:Ok left)(szL:Sz left)(hlead:Jk o left=some m)(hf:fdv 0 ((mkB gs).map (·.m)) m=some i)(hb:(mkB gs)[i]?=some b)(bm:(b.G,b.m)∈gs)(hd:Gf b.m m=true)
 (okS:Ok (Gw b.G (Gu m b.m) (co left m))) (szS:Sz (Gw b.G (Gu m b.m) (co left m))) (hkd:∀n∈TK.keys (dstep left b m),n∈L)
 (E:DivE o gs hg L (dstep left b m) rest (h+hg+1) nd r):DivE o gs hg (m::L) left rest h (nd+1) r where
 le:=Nat.succ_le_succ E.le
 run:=.step okl szL hlead hf hb okS szS (fun x hx=>T.lt x (hkd x hx)) E.run
 ok:=E.ok
 ks:=fun n hn=>(E.ks n hn).imp id fun x=>⟨.tail _ x.1,x.2⟩
 hb:=E.hb.up (by rw[Qa,Nat.succ_mul];exact Gh (Y6 _ _ _) 1 (.add (.add (.add (.var 0) (.var 1)) (.num 1)) (.var 2)) (.add (.var 0) (.add (.var 2) (.add (.var 1) (.num 1)))) [] rfl)
 rp:=(Rp.add (Q:=fun x=>x∈m::L) (co left m) (Gu m b.m) (b.G,b.m) bm (by rw[J2 hd];exact .head _) (E.rp.mono (fun _ h=>h) fun _ h=>.tail _ h)).cast fun n=>by
  rw[dstep_co okl okS];grind
 out:=fun n hn=>E.out n fun hh=>hn (.tail _ hh)
 head:=fun m' L' e hno=>fft (hno _ bm) ((List.cons.inj e).1▸hd)
end
theorem div_thm{o hg:Nat}{gs:List PG}(hgs:∀g∈gs,Elt o hg g):∀(L:List Qx),(∃pre,mons o=pre++L)→∀(left rest:Tm) (h:Nat),Ok left→Ok rest→(∀n∈keys left,n∈L)→(∀n∈keys rest,n∉L)→joint h (co left) (co rest)→h+L.length*(hg+1)<199000→
 ∃nd r,DivE o gs hg L left rest h nd r:=by
 intro L;induction L with
 |nil=>
  intro _ left rest h okl okr hk hkr hJ hh;have hl:left=[]:=by
   cases left with
   |nil=>rfl
   |cons x l=>exact nomatch hk x.1 (.head _)
  subst hl;exact z14 hJ fun D h1 h2 _ h4=>⟨0,rest,Qs _,.done rest,okr,fun n hn=>.inl hn,⟨D,h1,Nat.le_trans h2 (pow_mono2 (Nat.le_add_right ..)),h4.up (Nat.le_add_right ..)⟩,Rp.zero.cast fun n=>by rw[U5,Rat.zero_add,Rat.sub_self],fun _ _=>rfl,fun m L' e=>nomatch e⟩
 |cons m L ih=>
  intro hp left rest h okl okr hk hkr hJ hh;refine z11 hp fun pre hpre=>?_;have T:=mons_tl hpre;have ih:=ih ⟨pre++[m],by rw[hpre,Qb];rfl⟩;have hnew:m∉keys rest:=fun hm=>hkr m hm (.head _);have hr0:=zero_at okr hnew;have hhL:h+hg+1+L.length*(hg+1)<199000:=by
   rw[Qa,Nat.succ_mul]at hh;exact Jl (Y6 _ _ _) 1 (.add (.add (.add (.var 0) (.var 1)) (.num 1)) (.var 2)) (.num 199000) [Ge 1 (.add (.var 0) (.add (.var 2) (.add (.var 1) (.num 1)))) (.num 199000)] rfl hh
  have hhl:h+L.length*(hg+1)<199000:=Nat.lt_of_le_of_lt (Nat.add_le_add_right (Nat.le_add_right h (hg+1)) _) hhL;by_cases h0:co left m=0
  ·exact z21 (ih left rest h okl okr (fun n hn=>(Q5 (hk n hn)).elim (fun e=>absurd h0 ((Gi okl).mp (e▸hn))) id) (fun n hn hn'=>hkr n hn (.tail _ hn')) hJ hhl) fun nd r E=>⟨nd,r,E.skip T h0 hr0⟩
  have hlead:Jk o left=some m:=tlead_iff.mpr ⟨(Gi okl).mpr h0,fun n hn=>(Q5 (hk n hn)).imp id fun hn'=>T.lt n hn'⟩;refine z14 hJ fun D d1 d2 d3 d4=>?_;have szL:Sz left:=Hb.Sz ⟨D,d1,d2,d3⟩ okl (by exact Jl (G6 _ _) 1 (.var 0) (.num 200000) [Ge 1 (.add (.var 0) (.var 1)) (.num 199000)] rfl hh);have hm3:m.1+m.2≤3:=mem_mons.mp (hpre▸List.mem_append_right _ (.head _));have hms:(mkB gs).map (·.m)=gs.map (·.2):=List.map_map;cases hf:fdv 0 ((mkB gs).map (·.m)) m with
  |none=>
   have hno:∀g∈gs,Gf g.2 m=false:=fun g hg=>fdv_none.mp (hms▸hf) g.2 (Qj hg);have okd:=okl.tdel m;have hkd:∀n∈keys (tdel left m),n∈L:=fun n hn=>(Q5 (hk n (U8 hn))).elim (fun e=>absurd ((co_tdel okl.nodup ..).trans (if_pos e)) ((Gi okd).mp hn)) id;have hm6:m.1<6∧m.2<6:=⟨Nat.lt_of_le_of_lt (Nat.le_trans (Nat.le_add_right ..) hm3) (by decide),Nat.lt_of_le_of_lt (Nat.le_trans (Nat.le_add_left ..) hm3) (by decide)⟩
   refine z21 (ih (tdel left m) (tput rest m (co left m)) h okd (okr.tput hm6 h0 hnew) hkd (fun n hn hn'=>?_) ⟨D,d1,d2,fun n=>?_,fun n=>?_⟩ hhl) fun nd r E=>⟨nd+1,r,E.keep T okl szL hlead hno hf hkd hnew hr0⟩
   ·rw[keys_tput,if_neg hnew]at hn;exact(Qh hn).elim (fun e=>hkr n e (.tail _ hn')) fun e=>T.out (Q2 e▸hn')
   ·rw[co_tdel okl.nodup];split
    ·exact⟨0,Rat.zero_mul _,Nat.zero_le _⟩
    ·exact d3 n
   ·rw[co_tput];split
    ·rename_i e;exact e▸d3 _
    ·exact d4 n
  |some i=>
   refine cps fun qG qK=>?_;refine z12 (fdv_spec hf).2 fun l hl1 hd=>?_;rw[Nat.sub_zero,Qd]at hl1;refine z12 (Qo hl1) fun b hb e=>?_;subst e;have bm:(b.G,b.m)∈gs:=mkB_gm gs▸Qj (f:=gm) (Qf hb);refine zA3 (hgs _ bm) fun pg dc he=>zA4 pg fun okG _ ldG oneG=>z13 he fun DE e1 e2 e3=>z12 (d3 m) fun zq hq1 hq2=>?_;refine qK ?_;have okS:Ok (Gw b.G (Gu m b.m) (co left m)):=okG.up (p:=b.m) dc.2 hd hm3;have hDE:0<D*DE:=Int.mul_pos d1 e1;have szS:Sz (Gw b.G (Gu m b.m) (co left m)):=Hb.Sz (h:=h+hg) ⟨D*DE,hDE,Jo d2 e2,fun n=>co_tshift .. ▸HB.prod (e3.shf (Gu m b.m)) hq1 hq2 n⟩ okS (by exact Jl (Y6 _ _ _) 1 (.add (.var 0) (.var 1)) (.num 200000) [Ge 1 (.add (.add (.add (.var 0) (.var 1)) (.num 1)) (.var 2)) (.num 199000)] rfl hhL);have okd:Ok (dstep left b m):=tsum_ok okl okS.neg.small;have hcs:=dstep_co (b:=b) (m:=m) okl okS;have hkd:∀n∈keys (dstep left b m),n∈L:=fun n hn=>by
    have h1:=(Gi okd).mp hn;rw[hcs]at h1;by_cases e:n=m
    ·exact absurd (by rw[e,sh_top (g:=(b.G,b.m)) oneG (J2 hd),Rat.mul_one,Rat.sub_self]) h1
    by_cases h2:co left n=0
    ·have h3:sh (Gu m b.m) (co b.G) n≠0:=fun h3=>h1 (by rw[h2,h3,Rat.mul_zero,Rat.sub_self]);exact T.mem n (Nat.le_trans (sh_deg' (g:=(b.G,b.m)) okG dc hd h3) hm3) ((sh_lead (g:=(b.G,b.m)) ldG (J2 hd) okG h3).resolve_left e)
    ·exact(Q5 (hk n ((Gi okl).mpr h2))).resolve_left e
   exact z21 (ih (dstep left b m) rest (h+hg+1) okd okr hkd (fun n hn hn'=>hkr n hn (.tail _ hn')) ⟨D*DE,hDE,Nat.le_trans (Jo d2 e2) (pow_mono2 (Nat.le_succ _)),fun n=>hcs n▸HB.step d2 d3 e2 (e3.shf (Gu m b.m)) hq1 hq2 n,(d4.mulD e2).up (Nat.le_succ _)⟩ hhL) fun nd r E=>⟨nd+1,r,E.step T okl szL hlead hf hb bm hd okS szS hkd⟩
noncomputable def Sf(g1 g2:PG):PF:=fun n=>sh (Gu (G9 g1.2 g2.2) g1.2) (co g1.1) n-sh (Gu (G9 g1.2 g2.2) g2.2) (co g2.1) n
noncomputable def U6(o:Nat)(gs:List PG)(g1 g2:PG):Prop:=Rp gs (fun x=>mlt o x (G9 g1.2 g2.2)=true) (Sf g1 g2)
noncomputable def mle(o:Nat)(a b:Qx):Prop:=a=b∨mlt o a b=true
theorem mjoin_comm(a b:Qx):G9 a b=G9 b a:=Prod.ext (Nat.max_comm _ _) (Nat.max_comm _ _)
theorem U6.symm{o:Nat}{gs:List PG}{g1 g2:PG}(h:U6 o gs g1 g2):U6 o gs g2 g1:=by
 unfold U6 at h⊢;rw[mjoin_comm];refine(h.smul (-1)).cast fun n=>?_;unfold Sf;rw[mjoin_comm g2.2 g1.2];grind
theorem U6.self{o:Nat}{gs:List PG}(g:PG):U6 o gs g g:=Rp.zero.cast fun n=>by unfold Sf;grind
theorem U6.mono{o:Nat}{gs gs':List PG}{g1 g2:PG}(h:U6 o gs g1 g2)(hs:∀g∈gs,g∈gs'):U6 o gs' g1 g2:=Rp.mono h hs fun _ h=>h
theorem sf_shift{g1 g2:PG}{s t x:Qx}(h1:Gq s g1.2=x)(h2:Gq t g2.2=x):∃u,Gq (G9 g1.2 g2.2) u=x∧∀n,sh u (Sf g1 g2) n=sh s (co g1.1) n-sh t (co g2.1) n:=by
 have hj:Gf (G9 g1.2 g2.2) x=true:=Gd.mpr
  ⟨Nat.max_le.mpr ⟨h1▸Nat.le_add_left ..,h2▸Nat.le_add_left ..⟩,Nat.max_le.mpr ⟨h1▸Nat.le_add_left ..,h2▸Nat.le_add_left ..⟩⟩
 refine⟨Gu x (G9 g1.2 g2.2),(Ju ..).trans (J2 hj),fun n=>?_⟩;have key:∀{g:PG} {v:Qx},Gq v g.2=x→Gf g.2 (G9 g1.2 g2.2)=true→Gq (Gu (G9 g1.2 g2.2) g.2) (Gu x (G9 g1.2 g2.2))=v:=fun{g v} hv hd=>
  madd_inj (s:=g.2) (by rw[Ju (Gu _ _),madd_assoc,J2 hd,J2 hj,hv])
 have e:Sf g1 g2=fun n=>sh (Gu (G9 g1.2 g2.2) g1.2) (co g1.1) n+(-1)*sh (Gu (G9 g1.2 g2.2) g2.2) (co g2.1) n:=by funext n;unfold Sf;grind
 rw[e,sh_add,sh_smul,sh_sh,sh_sh,key h1 (Yq _ _),key h2 (Yp _ _)];grind
theorem rp_supp{o:Nat}{gs:List PG}(hgs:∀g∈gs,PG1 o g){t:Qx}{f:PF}(h:Rp gs (fun x=>mlt o x t=true) f):∀n,f n≠0→mlt o n t=true:=by
 induction h with
 |zero=>intro n hn;exact absurd rfl hn
 | @add f c s g hg hq _ ih=>
  intro n hn;by_cases h1:f n=0
  ·have h2:sh s (co g.1) n≠0:=fun h2=>hn (by show f n+c*sh s (co g.1) n=0;rw[h1,h2];grind);refine zA4 (hgs g hg) fun ok _ ld _=>?_;rcases sh_lead ld rfl ok h2 with e|e
   ·rw[e];exact hq
   ·exact Jy e hq
  ·exact ih n h1
theorem mle_lt{o:Nat}{a b c:Qx}(h1:mle o a b)(h2:mlt o b c=true):mlt o a c=true:=by
 rcases h1 with rfl|h1
 ·exact h2
 ·exact Jy h1 h2
theorem top_part{o:Nat}{gs:List PG}(hall:∀g1∈gs,∀g2∈gs,U6 o gs g1 g2){t:Qx}{f:PF}(h:Rp gs (fun x=>mle o x t) f):
 Rp gs (fun x=>mlt o x t=true) f∨∃g∈gs,∃(s:Qx) (C:Rat),Gq s g.2=t∧Rp gs (fun x=>mlt o x t=true) (fun n=>f n-C*sh s (co g.1) n):=by
 induction h with
 |zero=>exact .inl .zero
 | @add f c s g hg hq _ ih=>
  rcases hq with hq|hq
  ·right;rcases ih with ih|⟨g0,hg0,s0,C,hs0,ih⟩
   ·exact⟨g,hg,s,c,hq,ih.cast fun n=>by grind⟩
   ·refine⟨g0,hg0,s0,C+c,hs0,?_⟩;refine z12 (sf_shift hq hs0) fun u hu hsf=>?_;have h1:=(hall g hg g0 hg0).shift (Q':=fun x=>mlt o x t=true) u (fun m hm=>by rw[←hu,mlt_add];exact hm);exact(ih.plus (h1.smul c)).cast fun n=>by rw[hsf];grind
  ·rcases ih with ih|⟨g0,hg0,s0,C,hs0,ih⟩
   ·exact .inl (.add c s g hg hq ih)
   ·exact .inr ⟨g0,hg0,s0,C,hs0,(Rp.add c s g hg hq ih).cast fun n=>by grind⟩
theorem rp_bound{o:Nat}{gs:List PG}{Q:Qx→Prop}{f:PF}(h:Rp gs Q f):(∀n,f n=0)∨∃t,Q t∧Rp gs (fun x=>mle o x t) f:=by
 induction h with
 |zero=>exact .inl fun _=>rfl
 | @add f c s g hg hq h0 ih=>
  right;rcases ih with ih|⟨t,ht,ih⟩
  ·exact⟨_,hq,(Rp.one c s g hg (.inl rfl)).cast fun n=>by rw[ih n];grind⟩
  ·rcases mlt_tot (o:=o) (Gq s g.2) t with h1|h1|h1
   ·exact⟨t,ht,.add c s g hg (.inr h1) ih⟩
   ·exact⟨t,ht,.add c s g hg (.inl h1) ih⟩
   ·exact⟨_,hq,.add c s g hg (.inl rfl) (ih.mono (fun g hg=>hg) fun x hx=>.inr (mle_lt hx h1))⟩
theorem mlt_wf(o:Nat):WellFounded (fun a b:Qx=>mlt o a b=true):=by
 by_cases h:o=0
 ·subst h;refine Subrelation.wf (r:=InvImage (Prod.Lex (· <·) (· <·)) (fun m:Qx=>(m.1,m.2))) (fun{a b} hab=>?_) (InvImage.wf _ (Prod.lex Nat.lt_wfRel Nat.lt_wfRel).wf);rw[mlt_eq]at hab;simp only[if_true,Q9]at hab;rcases hab with h|⟨h1,h2⟩
  ·exact Prod.Lex.left _ _ h
  ·show Prod.Lex _ _ (a.1,a.2) (b.1,b.2);rw[h1];exact Prod.Lex.right _ h2
 ·refine Subrelation.wf (r:=InvImage (Prod.Lex (· <·) (· <·)) (fun m:Qx=>(m.1+m.2,m.1))) (fun{a b} hab=>?_) (InvImage.wf _ (Prod.lex Nat.lt_wfRel Nat.lt_wfRel).wf);rw[mlt_eq]at hab;rw[if_neg h]at hab;simp only[Q9]at hab;rcases hab with h|⟨h1,h2⟩
  ·exact Prod.Lex.left _ _ h
  ·show Prod.Lex _ _ (a.1+a.2,a.1) (b.1+b.2,b.1);rw[h1];exact Prod.Lex.right _ h2
theorem buch{o:Nat}{gs:List PG}(hgs:∀g∈gs,PG1 o g)(hall:∀g1∈gs,∀g2∈gs,U6 o gs g1 g2):∀(t:Qx) (f:PF),Rp gs (fun x=>mle o x t) f→(∀n,f n=0)∨∃m,f m≠0∧(∀n,f n≠0→mle o n m)∧∃g∈gs,Gf g.2 m=true:=by
 intro t;induction t using(mlt_wf o).induction with
 |_ t ih=>
  intro f hf;have low:Rp gs (fun x=>mlt o x t=true) f→(∀n,f n=0)∨∃m,f m≠0∧(∀n,f n≠0→mle o n m)∧∃g∈gs,Gf g.2 m=true:=fun h=>by
   rcases rp_bound (o:=o) h with h0|⟨t',h1,h2⟩
   ·exact .inl h0
   ·exact ih t' h1 f h2
  rcases top_part hall hf with h|⟨g,hg,s,C,hs,h⟩
  ·exact low h
  ·by_cases hC:C=0
   ·exact low (h.cast fun n=>by rw[hC];grind)
   ·right;refine zA4 (hgs g hg) fun ok _ ld one=>?_;have h0:f t-C*sh s (co g.1) t=0:=by
     cases hd:decide (f t-C*sh s (co g.1) t=0)with
     |true=>exact of_decide_eq_true hd
     |false=>
      have:=rp_supp hgs h t (of_decide_eq_false hd);rw[Yl]at this;cases this
    have hft:f t=C:=by rw[sh_top one hs]at h0;grind
    refine⟨t,by rw[hft];exact hC,fun n hn=>?_,g,hg,by rw[←hs,Ju,Ju g.2 s];rw[Gd];simp[Gq]⟩;by_cases h1:f n-C*sh s (co g.1) n=0
    ·have h2:sh s (co g.1) n≠0:=fun h2=>hn (by rw[h2]at h1;grind);exact sh_lead ld hs ok h2
    ·exact .inr (rp_supp hgs h n h1)
theorem U6.chain{o:Nat}{gs:List PG}{g1 g2 g3:PG}(h1:U6 o gs g1 g3)(h2:U6 o gs g2 g3)(hd:Gf g3.2 (G9 g1.2 g2.2)=true):U6 o gs g1 g2:=by
 have e1:Gq (Gu (G9 g1.2 g2.2) g1.2) g1.2=G9 g1.2 g2.2:=J2 (Yq _ _);have e2:Gq (Gu (G9 g1.2 g2.2) g2.2) g2.2=G9 g1.2 g2.2:=J2 (Yp _ _);have e3:Gq (Gu (G9 g1.2 g2.2) g3.2) g3.2=G9 g1.2 g2.2:=J2 hd;refine z12 (sf_shift e1 e3) fun u hu hsu=>?_;refine z12 (sf_shift e2 e3) fun v hv hsv=>?_;have a:=Rp.shift (Q':=fun x=>mlt o x (G9 g1.2 g2.2)=true) u h1 (fun m hm=>by rw[←hu,mlt_add];exact hm);have b:=Rp.shift (Q':=fun x=>mlt o x (G9 g1.2 g2.2)=true) v h2 (fun m hm=>by rw[←hv,mlt_add];exact hm);refine(a.plus (b.smul (-1))).cast fun n=>?_;rw[hsu,hsv];unfold Sf;grind
noncomputable def Zo:Tm→PF→PF
 |[],_=>fun _=>0
 |(m,c)::r,f=>fun n=>c*sh m f n+Zo r f n
theorem mulT_plus(U:Tm)(f g:PF)(a:Rat):∀n,Zo U (fun n=>a*f n+g n) n=a*Zo U f n+Zo U g n:=by
 induction U with
 |nil=>intro n;simp only[Zo];grind
 |cons x r ih=>
  obtain⟨m,c⟩:=x;intro n;simp only[Zo,ih];have:sh m (fun n=>a*f n+g n) n=a*sh m f n+sh m g n:=by unfold sh;split<;>grind
  rw[this];grind
noncomputable def dl(m:Qx):PF:=fun n=>if n=m then 1 else 0
theorem mulT_dl(U:Tm)(hn:(keys U).Nodup)(m:Qx):∀n,Zo U (dl m) n=sh m (co U) n:=by
 induction U with
 |nil=>intro n;unfold sh;simp only[Zo,U5];split<;>rfl
 |cons x r ih=>
  obtain⟨k,d⟩:=x;have hnk:k∉keys r∧(keys r).Nodup:=by simpa[keys]using hn
  intro n;simp only[Zo,ih hnk.2];have hc:∀j,co ((k,d)::r) j=(if j=k then d else 0)+co r j:=fun j=>by
   unfold co;simp only[Jb];by_cases h:k=j
   ·subst h;rw[if_pos rfl,if_pos rfl,Ja.mpr hnk.1];simp;grind
   ·rw[if_neg h,if_neg (Ne.symm h)];grind
  unfold sh;by_cases h1:Gf m n=true
  ·rw[if_pos h1,if_pos h1,hc];by_cases h2:Gf k n=true
   ·rw[if_pos h2];have:Gu n k=m↔Gu n m=k:=by
     have q:∀{a b:Qx},Gf a n=true→Gu n a=b→Gu n b=a:=fun h e=>by rw[←J2 h,e,Ju,Yy]
     exact⟨q h2,q h1⟩
    unfold dl;by_cases h3:Gu n k=m
    ·rw[if_pos h3,if_pos (this.mp h3)];grind
    ·rw[if_neg h3,if_neg fun e=>h3 (this.mpr e)];grind
   ·rw[if_neg h2];have:Gu n m≠k:=fun e=>h2 (Gd.mpr (e▸⟨Nat.sub_le ..,Nat.sub_le ..⟩));rw[if_neg this];grind
  ·rw[if_neg h1,if_neg h1];by_cases h2:Gf k n=true
   ·rw[if_pos h2];have:Gu n k≠m:=fun e=>h1 (Gd.mpr (e▸⟨Nat.sub_le ..,Nat.sub_le ..⟩));unfold dl;rw[if_neg this];grind
   ·rw[if_neg h2];grind
theorem mulT_comm(T U:Tm)(hT:(keys T).Nodup)(hU:(keys U).Nodup):∀n,Zo T (co U) n=Zo U (co T) n:=by
 induction T with
 |nil=>
  intro n;have:∀U:Tm,Zo U (co []) n=0:=fun U=>by
   induction U with
   |nil=>rfl
   |cons x r ih=>
    obtain⟨k,d⟩:=x;simp only[Zo,ih];have:sh k (co []) n=0:=by unfold sh;split<;>rfl
    rw[this];grind
  rw[this];rfl
 |cons x r ih=>
  obtain⟨m,c⟩:=x;have hnk:m∉keys r∧(keys r).Nodup:=by simpa[keys]using hT
  intro n;have hc:co ((m,c)::r)=fun j=>c*dl m j+co r j:=by
   funext j;unfold co dl;simp only[Jb];by_cases h:m=j
   ·subst h;rw[if_pos rfl,if_pos rfl,Ja.mpr hnk.1];simp;grind
   ·rw[if_neg h,if_neg (Ne.symm h)];grind
  rw[hc,mulT_plus,mulT_dl U hU,←ih hnk.2];rfl
theorem mulT_del(T:Tm)(hT:(keys T).Nodup)(a:Qx)(f:PF):∀n,Zo T f n=co T a*sh a f n+Zo (tdel T a) f n:=by
 induction T with
 |nil=>intro n;simp only[Zo,tdel,U5];grind
 |cons x r ih=>
  obtain⟨m,c⟩:=x;have hnk:m∉keys r∧(keys r).Nodup:=by simpa[keys]using hT
  intro n;by_cases h:m=a
  ·subst h;simp only[Zo,tdel,if_true];have:co ((m,c)::r) m=c:=by unfold co;simp[Jb]
   rw[this]
  ·simp only[Zo,tdel,if_neg h];have:co ((m,c)::r) a=co r a:=by unfold co;simp[Jb,h]
   rw[this,ih hnk.2];grind
theorem rp_mulT{gs:List PG}{Q:Qx→Prop}{g:PG}(hg:g∈gs):∀(T:Tm),(∀m∈keys T,Q (Gq m g.2))→Rp gs Q (Zo T (co g.1))
 |[],_=>.zero
 |(m,c)::r,h=>(Rp.add c m g hg (h m (.head _)) (rp_mulT hg r fun k hk=>h k (.tail _ hk))).cast fun n=>by show _=c*sh m (co g.1) n+Zo r (co g.1) n;grind
theorem U6.apart{o:Nat}{gs:List PG}{g1 g2:PG}(h1:g1∈gs)(h2:g2∈gs)(p1:PG1 o g1)(p2:PG1 o g2)(hap:(Y3 g1.2 g2.2).1+(Y3 g1.2 g2.2).2=0):U6 o gs g1 g2:=by
 refine zA4 p1 fun ok1 _ ld1 Uu=>?_;refine zA4 p2 fun ok2 _ ld2 one2=>?_;have hm:∀{a b:Nat},min a b=0→max a b=a+b:=fun{a b} h=>(Nat.le_total a b).elim (fun e=>by rw[Nat.min_eq_left e]at h;rw[Nat.max_eq_right e,h,Nat.zero_add]) fun e=>by rw[Nat.min_eq_right e]at h;rw[Nat.max_eq_left e,h,Nat.add_zero]
 have hj:G9 g1.2 g2.2=Gq g1.2 g2.2:=Prod.ext (hm (Nat.add_eq_zero_iff.mp hap).1) (hm (Nat.add_eq_zero_iff.mp hap).2);have e1:Gu (G9 g1.2 g2.2) g1.2=g2.2:=by rw[hj,Ju,Yy]
 have e2:Gu (G9 g1.2 g2.2) g2.2=g1.2:=by rw[hj,Yy]
 have c:=mulT_comm g1.1 g2.1 ok1.nodup ok2.nodup;have below:∀{g:PG},Ok g.1→Jk o g.1=some g.2→∀m∈keys (tdel g.1 g.2),mlt o m g.2=true:=fun{g} ok ld m hm=>by
  have hk:=(Gi (ok.tdel _)).mp hm;rw[co_tdel ok.nodup]at hk;split at hk
  ·exact absurd rfl hk
  ·rename_i hne;exact((Go ld).2 m (U8 hm)).resolve_left hne
 have r1:=rp_mulT (Q:=fun x=>mlt o x (G9 g1.2 g2.2)=true) h2 (tdel g1.1 g1.2) (fun m hm=>by rw[hj,mlt_add];exact below ok1 ld1 m hm);have r2:=rp_mulT (Q:=fun x=>mlt o x (G9 g1.2 g2.2)=true) h1 (tdel g2.1 g2.2) (fun m hm=>by rw[hj,Ju g1.2 g2.2,mlt_add];exact below ok2 ld2 m hm);refine(r1.plus (r2.smul (-1))).cast fun n=>?_;unfold Sf;rw[e1,e2];have c':=c n;rw[mulT_del g1.1 ok1.nodup g1.2,mulT_del g2.1 ok2.nodup g2.2,Uu,one2]at c';grind
structure ZC(Z:PF→Prop):Prop where
 add:∀f g,Z f→Z g→Z (fun n=>f n+g n)
 smul:∀c f,Z f→Z (fun n=>c*f n)
 sh:∀s f,Z f→Z (sh s f)
theorem ZC.rp{Z:PF→Prop}(hz:ZC Z){gs:List PG}(h:∀g∈gs,Z (co g.1))(h0:Z (fun _=>0)){Q:Qx→Prop}{f:PF}(r:Rp gs Q f):Z f:=by
 induction r with
 |zero=>exact h0
 |add c s g hg hq _ ih=>exact hz.add _ _ ih (hz.smul c _ (hz.sh s _ (h g hg)))
noncomputable def freeM(gs:List PG)(m:Qx):Bool:=gs.all fun g=>!Gf g.2 m
noncomputable def pot(L:List Qx)(gs:List PG):Nat:=(L.filter (freeM gs)).length
noncomputable def L3:List Qx:=[(1,0),(0,1),(1,1)]
noncomputable def L4:List Qx:=[(0,0),(1,0),(0,1),(1,1)]
theorem freeM_app(gs:List PG)(g:PG)(m:Qx):freeM (gs++[g]) m=(freeM gs m&& !Gf g.2 m):=by simp[freeM]
theorem filt_le{α:Type}{p q:α→Bool}(h:∀x,q x=true→p x=true)(L:List α):(L.filter q).length≤(L.filter p).length:=by
 rw[←List.countP_eq_length_filter,←List.countP_eq_length_filter];exact List.countP_mono_left fun x _=>h x
theorem filt_lt{α:Type}{p q:α→Bool}(h:∀x,q x=true→p x=true){m:α}(h1:p m=true)(h2:q m=false):∀L:List α,m∈L→(L.filter q).length+1≤(L.filter p).length
 |x::L,hm=>by
  simp only[List.filter_cons];rcases Q5 hm with rfl|hm
  ·rw[if_neg (by rw[h2];decide),if_pos h1];have:=filt_le h L;exact Nat.succ_le_succ this
  ·have:=filt_lt h h1 h2 L hm;by_cases hq:q x=true
   ·rw[if_pos hq,if_pos (h x hq)];exact Nat.succ_le_succ this
   ·rw[if_neg hq];split
    ·exact Nat.le_succ_of_le this
    ·exact this
theorem pot_le(L:List Qx)(gs:List PG)(g:PG):pot L (gs++[g])≤pot L gs:=filt_le (fun x hx=>by rw[freeM_app,Qc]at hx;exact hx.1) L
theorem pot_lt{L:List Qx}{gs:List PG}{g:PG}(hm:g.2∈L)(hf:∀g'∈gs,Gf g'.2 g.2=false):pot L (gs++[g])+1≤pot L gs:=
 filt_lt (fun x hx=>by rw[freeM_app,Qc]at hx;exact hx.1) (m:=g.2) (by
  unfold freeM;rw[List.all_eq_true];intro g' hg';rw[hf g' hg'];rfl) (by rw[freeM_app,mdiv_self];simp) L hm
noncomputable def HH:Nat→Nat
 |0=>4
 |t+1=>11*HH t+10
theorem HH_le:∀{t:Nat},t≤3→HH t≤6654
 |0,_=>by decide
 |1,_=>by decide
 |2,_=>by decide
 |3,_=>by decide
 |t+4,h=>by exact Gh (G6 _ _) 0 (.var 0) (.num 6654) [Gb 1 (.add (.var 1) (.num 4)) (.num 3)] rfl h
theorem HH_mono{t:Nat}:HH t≤HH (t+1):=by show HH t≤11*HH t+10;exact Gh (.leaf _) 1 (.var 0) (.add (.mulL 11 (.var 0)) (.num 10)) [] rfl
theorem Elt.up{o h h':Nat}{g:PG}(e:Elt o h g)(hh:h≤h'):Elt o h' g:=⟨e.1,e.2.1,e.2.2.up hh⟩
theorem monic_hb{h:Nat}{f:PF}(H:Hb h f){m:Qx}(hm:f m≠0)(hh:h<200000):Hb h (fun n=>f n*(f m)⁻¹)∧sz (f m)⁻¹:=by
 obtain⟨D,d1,d2,d3⟩:=H;obtain⟨z,hz1,hz2⟩:=d3 m;have hD:=int_ne d1;have hz0:z≠0:=by
  rintro rfl;rcases Rat.mul_eq_zero.mp (hz1.trans rfl)with h|h
  ·exact hm h
  ·exact hD h
 have habs:∃e:Int,(e=1∨e= -1)∧0<e*z:=(Int.lt_or_lt_of_ne hz0).elim (fun h=>⟨-1,.inr rfl,(Int.neg_one_mul z).symm▸Int.neg_pos_of_neg h⟩) fun h=>⟨1,.inl rfl,(Int.one_mul z).symm▸h⟩
 refine z12 habs fun e he hpos=>?_;have hee:(e:Rat)*(e:Rat)=1:=by
  have:e*e=1:=by rcases he with rfl|rfl<;>rfl
  rw[←Rat.intCast_mul,this];rfl
 have hfm:f m=(z:Rat)*(D:Rat)⁻¹:=by rw[←hz1];grind
 have hzr:(z:Rat)≠0:=by intro h0;exact hz0 (Rat.intCast_inj.mp (h0.trans rfl))
 have hnab:∀y:Int,(e*y).natAbs=y.natAbs:=fun y=>he.elim (fun h=>h.symm▸congrArg _ (Int.one_mul y)) fun h=>h.symm▸(congrArg _ (Int.neg_one_mul y)).trans (Int.natAbs_neg y);refine⟨⟨e*z,hpos,by rw[hnab];exact hz2,fun n=>?_⟩,?_⟩
 ·obtain⟨y,hy1,hy2⟩:=d3 n;refine⟨e*y,?_,by rw[hnab];exact hy2⟩;rw[Rat.intCast_mul,Rat.intCast_mul,←hy1,hfm];grind
 ·refine sz_of (D:=e*z) (z:=e*D) (h:=h) hpos (by rw[hnab];exact hz2) ?_ (by rw[hnab];exact d2) hh;rw[Rat.intCast_mul,Rat.intCast_mul,hfm];grind
structure Inv(o:Nat)(Z:PF→Prop)(F0:List PF)(gs:List PG)(W:List Pr)(t n:Nat):Prop where
 elt:∀g∈gs,Elt o (HH t) g
 z:∀g∈gs,Z (co g.1)
 gen:∀f∈F0,Rp gs (fun _=>True) f
 x2:∃g∈gs,Gf g.2 (2,0)=true
 y2:∃g∈gs,Gf g.2 (0,2)=true
 pairs:∀i j g1 g2,i<j→gs[i]?=some g1→gs[j]?=some g2→(i,j)∈W∨U6 o gs g1 g2
 wr:∀p∈W,p.1<p.2∧p.2<gs.length
 len:gs.length+pot L4 gs≤8
 tp:t+pot L3 gs≤3
 hn:n≤28
 cnt:2*W.length+56≤2*n+gs.length*(gs.length-1)
structure End(o:Nat)(Z:PF→Prop)(F0:List PF)(gs:List PG):Prop where
 elt:∀g∈gs,Elt o 6654 g
 z:∀g∈gs,Z (co g.1)
 gen:∀f∈F0,Rp gs (fun _=>True) f
 rep:∀g1∈gs,∀g2∈gs,U6 o gs g1 g2
 x2:∃g∈gs,Gf g.2 (2,0)=true
 y2:∃g∈gs,Gf g.2 (0,2)=true
 len:gs.length≤8
theorem sq_le{l:Nat}(h:l≤8):l*(l-1)≤56:=by
 have:l*(l-1)≤8*7:=Nat.mul_le_mul h (Nat.sub_le_sub_right h 1);exact Gh (.leaf _) 1 (.var 0) (.num 56) [Gb 1 (.var 0) (.mulL 8 (.num 7))] rfl this
theorem Inv.stop{o:Nat}{Z:PF→Prop}{F0:List PF}{gs:List PG}{t n:Nat}(I:Inv o Z F0 gs [] t n):End o Z F0 gs:=by
 refine⟨fun g hg=>(I.elt g hg).up (HH_le (by have:=I.tp;exact Gh (G6 _ _) 1 (.var 0) (.num 3) [Gb 1 (.add (.var 0) (.var 1)) (.num 3)] rfl this)),I.z,I.gen,fun g1 h1 g2 h2=>?_,I.x2,I.y2,by have:=I.len;exact Gh (G6 _ _) 1 (.var 0) (.num 8) [Gb 1 (.add (.var 0) (.var 1)) (.num 8)] rfl this⟩;obtain⟨i,hi⟩:=Qn h1;obtain⟨j,hj⟩:=Qn h2;rcases Nat.lt_trichotomy i j with h|h|h
 ·exact(I.pairs i j g1 g2 h hi hj).resolve_left (by simp)
 ·subst h;rw[hi]at hj;cases hj;exact U6.self g1
 ·exact((I.pairs j i g2 g1 h hj hi).resolve_left (by simp)).symm
theorem flt_len{W:List Pr}{p:Pr}(h:p∈W):(flt W p).length+1≤W.length:=by
 unfold flt;have:=filt_lt (p:=fun _=>true) (q:=fun q=>decide (q≠p)) (fun _ _=>rfl) (m:=p) rfl (by simp) W h;rw[List.filter_eq_self.mpr (fun _ _=>rfl)]at this;exact this
theorem flt_mem{W:List Pr}{p q:Pr}:q∈flt W p↔q∈W∧q≠p:=by unfold flt;rw[List.mem_filter];simp
theorem Inv.drop{o:Nat}{Z:PF→Prop}{F0:List PF}{gs:List PG}{W:List Pr}{t n:Nat}(I:Inv o Z F0 gs W t (n+1)){i j:Nat}(h:(i,j)∈W){g1 g2:PG}(h1:gs[i]?=some g1)(h2:gs[j]?=some g2)(hr:U6 o gs g1 g2):Inv o Z F0 gs (flt W (i,j)) t n:=
 {I with
  pairs:=fun i' j' a b hlt ha hb=>by
   rcases I.pairs i' j' a b hlt ha hb with h'|h'
   ·by_cases e:(i',j')=(i,j)
    ·cases e;rw[h1]at ha;rw[h2]at hb;cases ha;cases hb;exact .inr hr
    ·exact .inl (flt_mem.mpr ⟨h',e⟩)
   ·exact .inr h'
  wr:=fun p hp=>I.wr p (flt_mem.mp hp).1
  hn:=by have:=I.hn;exact Gh (.leaf _) 1 (.var 0) (.num 28) [Gb 1 (.add (.var 0) (.num 1)) (.num 28)] rfl this
  cnt:=Gh (lctx4 _ _ _ _) 1 (.add (.mulL 2 (.var 0)) (.num 56)) (.add (.mulL 2 (.var 1)) (.var 2)) [Gb 1 (.add (.mulL 2 (.var 3)) (.num 56)) (.add (.mulL 2 (.add (.var 1) (.num 1))) (.var 2)),Gb 2 (.add (.var 0) (.num 1)) (.var 3)] rfl I.cnt (flt_len h)}
theorem Inv.needless{o:Nat}{Z:PF→Prop}{F0:List PF}{gs:List PG}{W:List Pr}{t n:Nat}(I:Inv o Z F0 gs W t (n+1)){i j:Nat}(h:(i,j)∈W){g1 g2:PG}(h1:gs[i]?=some g1)(h2:gs[j]?=some g2)
 (hr:(Y3 g1.2 g2.2).1+(Y3 g1.2 g2.2).2=0∨∃t,Chain (flt W (i,j)) (gs.map (·.2)) i j (G9 g1.2 g2.2) t):U6 o gs g1 g2:=by
 have m1:=Qf h1;have m2:=Qf h2;rcases hr with hr|⟨s,l,hl,hsi,hsj,hd,hw1,hw2⟩
 ·exact U6.apart m1 m2 (I.elt g1 m1).1 (I.elt g2 m2).1 hr
 ·rw[Qd]at hl;obtain⟨g3,h3,rfl⟩:=Qo hl;have hij:=(I.wr _ h).1;have rep:∀{u:Nat} {g:PG},gs[u]?=some g→s≠u→(u=i∨u=j)→mnp u s∉flt W (i,j)→U6 o gs g g3:=fun{u g} hu hsu huij hw=>by
   have hne:mnp u s≠(i,j):=fun e=>(Nat.le_total u s).elim (fun h=>hsj ((Nat.max_eq_right h).symm.trans (congrArg Prod.snd e))) fun h=>hsi ((Nat.min_eq_right h).symm.trans (congrArg Prod.fst e));have hw':mnp u s∉W:=fun hm=>hw (flt_mem.mpr ⟨hm,hne⟩);rcases Nat.lt_or_ge u s with hlt|hge
   ·have:mnp u s=(u,s):=Prod.ext (Nat.min_eq_left (Nat.le_of_lt hlt)) (Nat.max_eq_right (Nat.le_of_lt hlt));exact(I.pairs u s g g3 hlt hu h3).resolve_left (this▸hw')
   ·have:mnp u s=(s,u):=Prod.ext (Nat.min_eq_right hge) (Nat.max_eq_left hge);exact((I.pairs s u g3 g (Nat.lt_of_le_of_ne hge hsu) h3 hu).resolve_left (this▸hw')).symm
  exact U6.chain (rep h1 hsi (.inl rfl) hw1) (rep h2 hsj (.inr rfl) hw2) hd
theorem spoly_co{o:Nat}{g1 g2:PG}(okS:Ok (Gw g1.1 (Gu (G9 g1.2 g2.2) g1.2) 1))(okT:Ok (Gw g2.1 (Gu (G9 g1.2 g2.2) g2.2) 1))(n:Qx):co (spoly g1.1 g2.1 g1.2 g2.2) n=Sf g1 g2 n:=by
 unfold spoly Sf;rw[tsum_co okS okT.neg.small okT.neg.nodup,co_tneg,co_tshift,co_tshift];grind
theorem sf_ne{g1 g2:PG}{n:Qx}(h:Sf g1 g2 n≠0):sh (Gu (G9 g1.2 g2.2) g1.2) (co g1.1) n≠0∨sh (Gu (G9 g1.2 g2.2) g2.2) (co g2.1) n≠0:=
 (Decidable.em (sh (Gu (G9 g1.2 g2.2) g1.2) (co g1.1) n=0)).elim (fun e=>.inr fun e'=>h (by unfold Sf;rw[e,e',Rat.sub_self])) .inl
theorem sf_supp{o:Nat}{g1 g2:PG}(p1:PG1 o g1)(p2:PG1 o g2){n:Qx}(h:Sf g1 g2 n≠0):mlt o n (G9 g1.2 g2.2)=true:=by
 refine zA4 p1 fun ok1 _ ld1 Uu=>zA4 p2 fun ok2 _ ld2 one2=>?_;have e1:Gq (Gu (G9 g1.2 g2.2) g1.2) g1.2=G9 g1.2 g2.2:=J2 (Yq _ _);have e2:Gq (Gu (G9 g1.2 g2.2) g2.2) g2.2=G9 g1.2 g2.2:=J2 (Yp _ _);have hn:n≠G9 g1.2 g2.2:=fun e=>h (by unfold Sf;rw[e,sh_top Uu e1,sh_top one2 e2,Rat.sub_self]);exact(sf_ne h).elim (fun h=>(sh_lead ld1 e1 ok1 h).resolve_left hn) fun h=>(sh_lead ld2 e2 ok2 h).resolve_left hn
theorem HB.sub1{h:Nat}{D E:Int}{f g:PF}(hDb:D.natAbs≤2^h)(H:HB h D f)(hEb:E.natAbs≤2^h)(Hg:HB h E g):HB (2*h+1) (D*E) (fun n=>f n-g n):=fun m=>
 z12 (HB.step (q:=1) (zq:=D) hDb H hEb Hg (Rat.one_mul _) hDb m) fun z h1 h2=>⟨z,by rw[←h1];show(f m-g m)*_=(f m-1*g m)*_;rw[Rat.one_mul],Nat.two_mul h▸h2⟩
theorem okNil:Ok ([]:Tm)where
 nodup:=.nil
 small:=fun _ hx=>nomatch hx
 nz:=fun _ hx=>nomatch hx
theorem tl_len{o:Nat}{pre L:List Qx}(h:mons o=pre++L):pre.length+L.length=10:=by
 rw[←Q8,←h];unfold mons;split<;>rfl
theorem div_nil{o hg h:Nat}{gs:List PG}(hgs:∀g∈gs,Elt o hg g){pre L:List Qx}(hL:mons o=pre++L){left:Tm}(ok:Ok left)(hk:∀n∈keys left,n∈L)(H:Hb h (co left))(hh:h+L.length*(hg+1)<199000):∃nd r,DivE o gs hg L left [] h nd r:=
 z13 H fun D a b c=>div_thm hgs L ⟨pre,hL⟩ left [] h ok okNil hk (fun _ hn=>nomatch hn) ⟨D,a,b,c,fun _=>⟨0,Rat.zero_mul _,Nat.zero_le _⟩⟩ hh
theorem mem_L4{n:Qx}(h1:n.1≤1)(h2:n.2≤1):n∈L4:=(show∀a,a<2→∀b,b<2→(a,b)∈L4 by decide) n.1 (Nat.lt_succ_of_le h1) n.2 (Nat.lt_succ_of_le h2)
theorem deg_L4{o:Nat}{n m:Qx}(hn:n∈L4)(hm:m∈L4)(e:mlt o n m=true):n.1+n.2≤m.1+m.2:=by
 by_cases h:o=0
 ·subst h;exact(show∀n,n∈L4→∀m,m∈L4→mlt 0 n m=true→n.1+n.2≤m.1+m.2 by decide) n hn m hm e
 ·exact(show∀n,n∈L4→∀m,m∈L4→mlt 1 n m=true→n.1+n.2≤m.1+m.2 by decide) n hn m hm (mlt_one h n m▸e)
theorem box_one{gs:List PG}{k n:Qx}(h:∃g∈gs,Gf g.2 k=true)(hno:∀g∈gs,Gf g.2 n=false):¬(k.1≤n.1∧k.2≤n.2):=fun e=>
 z12 h fun g hg hk=>fft (hno g hg) (Gd.mpr ⟨Nat.le_trans (Gd.mp hk).1 e.1,Nat.le_trans (Gd.mp hk).2 e.2⟩)
theorem box_of{gs:List PG}{n:Qx}(x2:∃g∈gs,Gf g.2 (2,0)=true)(y2:∃g∈gs,Gf g.2 (0,2)=true)(hno:∀g∈gs,Gf g.2 n=false):n∈L4:=
 mem_L4 (Nat.le_of_not_lt fun h=>box_one x2 hno ⟨h,Nat.zero_le _⟩) (Nat.le_of_not_lt fun h=>box_one y2 hno ⟨Nat.zero_le _,h⟩)
theorem new_ok{o h:Nat}{r:Tm}{m:Qx}(ok:Ok r)(hm:Jk o r=some m)(hb:Hb h (co r))(hh:h<200000)(hbox:∀n∈keys r,n∈L4):sz (co r m)⁻¹ ∧Elt o h (Gv r (co r m)⁻¹,m):=by
 have ht:=Go hm;have hc:=(Gi ok).mp ht.1;have hi:(co r m)⁻¹ ≠0:=fun h=>hc (by grind);refine zA2 (monic_hb hb hc hh) fun h1 h2=>⟨h2,?_⟩
 have h3:Hb h (co (Gv r (co r m)⁻¹)):=(funext (Uq r (co r m)⁻¹):co (Gv r (co r m)⁻¹)=fun n=>co r n*(co r m)⁻¹)▸h1;have okn:=ok.scale hi;have hk:keys (Gv r (co r m)⁻¹)=keys r:=keys_tscale hi;refine⟨⟨okn,h3.Sz okn hh,tlead_iff.mpr (hk.symm▸ht),(Uq ..).trans (Rat.mul_inv_cancel _ hc)⟩,⟨(show∀m,m∈L4→m.1+m.2≤2 by decide) m (hbox m ht.1),fun n hn=>?_⟩,h3⟩;have hn:n∈keys r:=hk▸hn;exact(ht.2 n hn).elim (fun e=>e▸Qs _) (deg_L4 (hbox n hn) (hbox m ht.1))
theorem one_hb{o h:Nat}{r:Tm}(ok:Ok r)(hm:Jk o r=some (0,0))(h4:∀n∈keys r,n∈L4):Hb h (co (Gv r (co r (0,0))⁻¹)):=by
 have ht:=Go hm;refine⟨1,by decide,Nat.one_le_two_pow,fun n=>?_⟩;rw[Uq];by_cases e:n=(0,0)
 ·exact⟨1,by rw[e,Rat.mul_inv_cancel _ ((Gi ok).mp ht.1)];exact Rat.one_mul _,Nat.one_le_two_pow⟩
 ·refine⟨0,?_,Nat.zero_le _⟩;rw[zero_at ok fun hn=>(ht.2 n hn).elim e fun e'=>e (Prod.ext ?_ ?_),Rat.zero_mul,Rat.zero_mul];rfl
  ·exact Nat.le_zero.mp (Nat.le_trans (Nat.le_add_right ..) (deg_L4 (h4 n hn) (.head _) e'))
  ·exact Nat.le_zero.mp (Nat.le_trans (Nat.le_add_left ..) (deg_L4 (h4 n hn) (.head _) e'))
structure PairE(o:Nat)(gs:List PG)(t:Nat)(g1 g2:PG)(nd:Nat)(r:Tm):Prop where
 okP:Ok (spoly g1.1 g2.1 g1.2 g2.2)
 le:nd≤10
 run:Jz o (mkB gs) (spoly g1.1 g2.1 g1.2 g2.2) [] nd r
 ok:Ok r
 rp:Rp gs (fun x=>mlt o x (G9 g1.2 g2.2)=true) (fun n=>Sf g1 g2 n-co r n)
 hb:Hb (HH (t+1)) (co r)
 lt:∀n∈keys r,mlt o n (G9 g1.2 g2.2)=true
 free:∀n∈keys r,∀g∈gs,Gf g.2 n=false
theorem max_min(a b:Nat):max a b+min a b=a+b:=(Nat.le_total a b).elim (fun h=>by rw[Nat.max_eq_right h,Nat.min_eq_left h,Nat.add_comm]) fun h=>by rw[Nat.max_eq_left h,Nat.min_eq_right h]
theorem join_deg{a b:Qx}(ha:a.1+a.2≤2)(hb:b.1+b.2≤2)(h:(Y3 a b).1+(Y3 a b).2≠0):(G9 a b).1+(G9 a b).2≤3:=
 Gh (lctx8 _ _ _ _ _ _ _ _) 1 (.add (.var 0) (.var 1)) (.num 3) [Gb 1 (.add (.var 2) (.var 3)) (.num 2),Gb 1 (.add (.var 4) (.var 5)) (.num 2),Ge 1 (.num 0) (.add (.var 6) (.var 7)),Gp 1 (.add (.var 0) (.var 6)) (.add (.var 2) (.var 4)),Gp 1 (.add (.var 1) (.var 7)) (.add (.var 3) (.var 5))] rfl ha hb (Nat.pos_of_ne_zero h) (max_min a.1 b.1) (max_min a.2 b.2)
theorem pair_ok{o:Nat}{g1 g2:PG}{h t:Nat}(e1:Elt o h g1)(e2:Elt o h g2)(hap:(Y3 g1.2 g2.2).1+(Y3 g1.2 g2.2).2≠0):Ok (Gw g1.1 (Gu (G9 g1.2 g2.2) g1.2) 1)∧Ok (Gw g2.1 (Gu (G9 g1.2 g2.2) g2.2) 1):=
 ⟨e1.1.1.up e1.2.1.2 (Yq _ _) (join_deg e1.2.1.1 e2.2.1.1 hap),e2.1.1.up e2.2.1.2 (Yp _ _) (join_deg e1.2.1.1 e2.2.1.1 hap)⟩
theorem pair_run{o:Nat}{gs:List PG}{t:Nat}{g1 g2:PG}(he:∀g∈gs,Elt o (HH t) g)(ht:t≤3)(m1:g1∈gs)(m2:g2∈gs)(hap:(Y3 g1.2 g2.2).1+(Y3 g1.2 g2.2).2≠0):∃nd r,PairE o gs t g1 g2 nd r:=by
 refine zA3 (he g1 m1) fun p1 dc1 b1=>zA3 (he g2 m2) fun p2 dc2 b2=>zA2 (pair_ok (t:=t) (he g1 m1) (he g2 m2) hap) fun okS okT=>?_;have okP:Ok (spoly g1.1 g2.1 g1.2 g2.2):=tsum_ok okS okT.neg.small;have hco:co (spoly g1.1 g2.1 g1.2 g2.2)=Sf g1 g2:=funext (spoly_co (o:=o) okS okT);have hd:=join_deg dc1.1 dc2.1 hap;refine z21 (List.append_of_mem (mem_mons (o:=o).mpr hd)) fun pre L hL=>?_;have T:=mons_tl hL;have h9:L.length≤9:=by have h:=tl_len hL;exact Gh (G6 _ _) 1 (.var 0) (.num 9) [Gp 1 (.add (.var 1) (.add (.var 0) (.num 1))) (.num 10)] rfl h
 have hm:L.length*(HH t+1)≤9*(HH t+1):=Nat.mul_le_mul_right _ h9;have hH:=HH_le ht;refine z21 (div_nil (h:=2*HH t+1) he (pre:=pre++[G9 g1.2 g2.2]) (L:=L) (by rw[hL,Qb];rfl) okP (fun n hn=>?_) ?_ ?_) fun nd r E=>⟨nd,r,okP,Nat.le_trans E.le (Nat.le_trans h9 (by decide)),E.run,E.ok,?_,E.hb.up ?_,fun n hn=>T.lt n ?_,fun n hn=>?_⟩
 ·have h:=(Gi okP).mp hn;rw[hco]at h;exact T.mem n (Nat.le_trans ((sf_ne h).elim (sh_deg' p1.1 dc1 (Yq _ _)) (sh_deg' p2.1 dc2 (Yp _ _))) hd) (sf_supp p1 p2 h)
 ·rw[hco];exact z13 b1 fun DA a1 a2 a3=>z13 b2 fun DB b1 b2 b3=>⟨DA*DB,Int.mul_pos a1 b1,Nat.le_trans (Jo a2 b2) (pow_mono2 (Nat.two_mul (HH t)▸Nat.le_succ _)),HB.sub1 a2 (a3.shf _) b2 (b3.shf _)⟩
 ·exact Jl (G6 _ _) 1 (.add (.add (.mulL 2 (.var 0)) (.num 1)) (.var 1)) (.num 199000) [Gb 1 (.var 1) (.mulL 9 (.add (.var 0) (.num 1))),Gb 11 (.var 0) (.num 6654)] rfl hm hH
 ·refine(E.rp.mono (fun _ h=>h) T.lt).cast fun n=>?_;rw[hco,U5,Rat.add_zero]
 ·exact Gh (G6 _ _) 1 (.add (.add (.mulL 2 (.var 0)) (.num 1)) (.var 1)) (.add (.mulL 11 (.var 0)) (.num 10)) [Gb 1 (.var 1) (.mulL 9 (.add (.var 0) (.num 1)))] rfl hm
 ·exact((E.ks n hn).resolve_left fun h=>nomatch h).1
 ·exact((E.ks n hn).resolve_left fun h=>nomatch h).2
theorem Ys{α:Type}{P:α→Prop}{gs:List α}{gn:α}(h:∀g∈gs,P g)(h':P gn):∀g∈gs++[gn],P g:=fun g hg=>(Qh hg).elim (h g) fun e=>Q2 e▸h'
theorem Inv.len8{o:Nat}{Z:PF→Prop}{F0:List PF}{gs:List PG}{W:List Pr}{t n:Nat}(I:Inv o Z F0 gs W t n):gs.length≤8:=Nat.le_trans (Nat.le_add_right ..) I.len
theorem Inv.grow{o:Nat}{Z:PF→Prop}{F0:List PF}{gs:List PG}{W:List Pr}{t t' n i j:Nat}{g1 g2 gn:PG}(I:Inv o Z F0 gs W t (n+1))(hij:(i,j)∈W)(h1:gs[i]?=some g1)(h2:gs[j]?=some g2)(hrep:U6 o (gs++[gn]) g1 g2)
 (he:Elt o (HH t') gn) (hH:HH t≤HH t') (hzn:Z (co gn.1)) (ht:t'+pot L3 (gs++[gn])≤3) (h4:pot L4 (gs++[gn])+1≤pot L4 gs):Inv o Z F0 (gs++[gn]) (flt W (i,j)++newW gs.length) t' n:=
 have hsub:∀g∈gs,g∈gs++[gn]:=fun g hg=>List.mem_append_left _ hg;have hl:(gs++[gn]).length=gs.length+1:=Q8
 {
  elt:=Ys (fun g hg=>(I.elt g hg).up hH) he
  z:=Ys I.z hzn
  gen:=fun f hf=>(I.gen f hf).mono hsub fun _ h=>h
  x2:=z12 I.x2 fun g a b=>⟨g,hsub g a,b⟩
  y2:=z12 I.y2 fun g a b=>⟨g,hsub g a,b⟩
  pairs:=fun i' j' ga gb hlt ha hb=>by
   rcases Ut hb with hb|hb
   ·rw[List.getElem?_append_left (Nat.lt_trans hlt (Yc hb))]at ha;refine(I.pairs i' j' ga gb hlt ha hb).elim (fun h'=>(Decidable.em ((i',j')=(i,j))).elim (fun e=>.inr ?_) fun e=>.inl (List.mem_append_left _ (flt_mem.mpr ⟨h',e⟩))) fun h'=>.inr (h'.mono hsub);have e1:i'=i:=congrArg Prod.fst e;have e2:j'=j:=congrArg Prod.snd e;subst e1 e2;exact Option.some.inj (h1.symm.trans ha)▸Option.some.inj (h2.symm.trans hb)▸hrep
   ·exact .inl (List.mem_append_right _ (List.mem_map.mpr ⟨i',List.mem_range.mpr (hb.1▸hlt),hb.1▸rfl⟩))
  wr:=fun p hp=>by
   rw[hl];rcases Qh hp with hp|hp
   ·exact⟨(I.wr p (flt_mem.mp hp).1).1,Nat.lt_succ_of_lt (I.wr p (flt_mem.mp hp).1).2⟩
   ·exact z12 (Qg hp) fun q hq e=>e▸⟨List.mem_range.mp hq,Nat.lt_succ_self _⟩
  len:=by
   rw[hl];have h:=I.len;exact Gh (Y6 _ _ _) 1 (.add (.add (.var 0) (.num 1)) (.var 1)) (.num 8) [Gb 1 (.add (.var 1) (.num 1)) (.var 2),Gb 1 (.add (.var 0) (.var 2)) (.num 8)] rfl h4 h
  tp:=ht
  hn:=Nat.le_of_succ_le I.hn
  cnt:=by
   have c1:=I.cnt;have c2:=flt_len hij;have c3:(flt W (i,j)++newW gs.length).length=(flt W (i,j)).length+gs.length:=List.length_append.trans (congrArg _ ((Qi ..).trans List.length_range));rw[hl,c3,Nat.add_sub_cancel];have c4:(gs.length+1)*gs.length=gs.length*(gs.length-1)+2*gs.length:=by
    cases gs.length with
    |zero=>rfl
    |succ k=>rw[Nat.add_sub_cancel,Nat.mul_comm (k+1) k,Nat.add_mul k 2 (k+1)]
   exact Gh (lctx6 _ _ _ _ _ _) 1 (.add (.mulL 2 (.add (.var 0) (.var 1))) (.num 56)) (.add (.mulL 2 (.var 2)) (.var 3)) [Gb 1 (.add (.mulL 2 (.var 4)) (.num 56)) (.add (.mulL 2 (.add (.var 2) (.num 1))) (.var 5)),Gb 2 (.add (.var 0) (.num 1)) (.var 4),Gp 1 (.add (.var 5) (.mulL 2 (.var 1))) (.var 3)] rfl c1 c2 c4.symm}
theorem ZC.sub{Z:PF→Prop}(hz:ZC Z){f g:PF}(hf:Z f)(hg:Z g):Z fun n=>f n-g n:=
 (funext fun n=>by grind:(fun n=>f n+ -1*g n)=fun n=>f n-g n)▸hz.add _ _ hf (hz.smul (-1) _ hg)
theorem gok{o:Nat}{Z:PF→Prop}(hz:ZC Z)(h0:Z fun _=>0){F0:List PF}{P:List PG→Prop}(hP:∀gs,End o Z F0 gs→P gs):∀(n:Nat) (gs:List PG) (W:List Pr) (t:Nat),Inv o Z F0 gs W t n→GOk o P n gs W:=by
 intro n;induction n with
 |zero=>
  intro gs W t I;have h1:=I.cnt;have hW:W=[]:=List.eq_nil_of_length_eq_zero (Nat.le_zero.mp (Gh (G6 _ _) 2 (.var 0) (.num 0) [Gb 1 (.add (.mulL 2 (.var 0)) (.num 56)) (.add (.mulL 2 (.num 0)) (.var 1)),Gb 1 (.var 1) (.num 56)] rfl h1 (sq_le I.len8)));subst hW;exact⟨rfl,hP gs I.stop⟩
 |succ n ih=>
  intro gs W t I;by_cases hW:W=[]
  ·subst hW;exact .inl ⟨rfl,hP gs I.stop⟩
  have h1:=I.cnt;refine .inr ⟨hW,Nat.le_trans I.len8 (by decide),Gh (Y6 _ _ _) 2 (.var 0) (.num 200) [Gb 1 (.add (.mulL 2 (.var 0)) (.num 56)) (.add (.mulL 2 (.add (.var 1) (.num 1))) (.var 2)),Gb 1 (.var 2) (.num 56),Gb 2 (.add (.var 1) (.num 1)) (.num 28)] rfl h1 (sq_le I.len8) I.hn,fun i j hij=>?_⟩;have hw:=I.wr _ hij;refine z11 (show∃g,gs[i]?=some g from⟨_,Qe (Nat.lt_trans hw.1 hw.2)⟩) fun g1 h1=>z11 (show∃g,gs[j]?=some g from⟨_,Qe hw.2⟩) fun g2 h2=>?_;have m1:=Qf h1;have m2:=Qf h2;have ht:t≤3:=Nat.le_trans (Nat.le_add_right ..) I.tp;refine⟨g1,g2,h1,h2,fun hr=>ih _ _ t (I.drop hij h1 h2 (I.needless hij h1 h2 hr)),fun hap=>zA2 (pair_ok (t:=t) (I.elt g1 m1) (I.elt g2 m2) hap) fun okS okT=>z21 (pair_run I.elt ht m1 m2 hap) fun nd r E=>⟨okS,okT,E.okP,nd,r,E.run,Nat.le_trans E.le (by decide),fun hr=>?_,fun hr=>?_⟩⟩
  ·subst hr;exact ih _ _ t (I.drop hij h1 h2 (E.rp.cast fun n=>by rw[U5];grind))
  ·cases hm:Jk o r with
   |none=>exact absurd (tlead_none hm) hr
   |some m=>
    have hk:=(Go hm).1;have hb4:∀n∈keys r,n∈L4:=fun n hn=>box_of I.x2 I.y2 (E.free n hn);have hH3:HH (t+1)<200000:=by show 11*HH t+10<_;have h:=HH_le ht;exact Jl (.leaf _) 1 (.add (.mulL 11 (.var 0)) (.num 10)) (.num 200000) [Gb 11 (.var 0) (.num 6654)] rfl h
    refine zA2 (new_ok E.ok hm E.hb hH3 hb4) fun hs he=>⟨m,hm,E.ok,E.hb.Sz E.ok hH3,hs,he.1,?_⟩
    have hp4:=pot_lt (g:=(Gv r (co r m)⁻¹,m)) (hb4 m hk) (E.free m hk);have hzn:Z (co (Gv r (co r m)⁻¹)):=(funext fun n=>(Rat.mul_comm ..).trans (Uq ..).symm:(fun n=>(co r m)⁻¹ *co r n)=co (Gv r (co r m)⁻¹))▸hz.smul (co r m)⁻¹ _
     ((funext fun n=>by grind:(fun n=>Sf g1 g2 n-(Sf g1 g2 n-co r n))=co r)▸hz.sub (hz.sub (hz.sh _ _ (I.z g1 m1)) (hz.sh _ _ (I.z g2 m2))) (hz.rp I.z h0 E.rp))
    have hrep:U6 o (gs++[(Gv r (co r m)⁻¹,m)]) g1 g2:=((E.rp.mono (fun g hg=>List.mem_append_left _ hg) fun _ h=>h).plus (Rp.one (co r m) (0,0) (Gv r (co r m)⁻¹,m) (List.mem_append_right _ (.head _)) (by rw[show Gq (0,0) m=m from Prod.ext (Nat.zero_add _) (Nat.zero_add _)];exact E.lt m hk))).cast fun n=>by
     have hc:=(Gi E.ok).mp hk;rw[sh_zero];show _+co r m*co (Gv r (co r m)⁻¹) n=_;rw[Uq];grind
    by_cases hm0:m=(0,0)
    ·subst hm0;exact ih _ _ t (I.grow hij h1 h2 hrep ⟨he.1,he.2.1,one_hb E.ok hm hb4⟩ (Qs _) hzn (Nat.le_trans (Nat.add_le_add_left (pot_le ..) _) I.tp) hp4)
    ·have hp3:=pot_lt (L:=L3) (g:=(Gv r (co r m)⁻¹,m)) ((Q5 (hb4 m hk)).resolve_left hm0) (E.free m hk);exact ih _ _ (t+1) (I.grow hij h1 h2 hrep he HH_mono hzn (Nat.le_trans (Nat.le_of_eq (Nat.add_right_comm t 1 _)) (Nat.le_trans (Nat.add_le_add_left hp3 t) I.tp)) hp4)
noncomputable def Std(H:List PG)(n:Qx):Prop:=∀h∈H,Gf h.2 n=false
structure Form(o:Nat)(Z:PF→Prop)(F0:List PF)(H:List PG):Prop where
 elt:∀h∈H,Elt o 4 h
 z:∀h∈H,Z (co h.1)
 sorted:H.Pairwise fun g h=>mlt o g.2 h.2=true
 red:∀h∈H,∀n∈keys h.1,n≠h.2→Std H n
 anti:∀g∈H,∀h∈H,Gf g.2 h.2=true→g.2=h.2
 ind:∀f,Z f→(∀n,f n≠0→Std H n)→∀n,f n=0
 gen:∀gs:List PG,(∀f∈F0,Rp gs (fun _=>True) f)→∀h∈H,Rp gs (fun _=>True) (co h.1)
 len:H.length≤3
theorem mdiv_le{o:Nat}{a b:Qx}(h:Gf a b=true):mle o a b:=by
 refine(mlt_tot (o:=o) a b).elim .inr fun h'=>h'.elim .inl fun h'=>?_;have e:=Gd.mp h;rw[mlt_eq]at h';split at h'
 ·exact(of_decide_eq_true h').elim (fun q=>absurd e.1 (Nat.not_le.mpr q)) fun q=>absurd e.2 (Nat.not_le.mpr q.2)
 ·exact(of_decide_eq_true h').elim (fun q=>absurd (Nat.add_le_add e.1 e.2) (Nat.not_le.mpr q)) fun q=>absurd e.1 (Nat.not_le.mpr q.2)
theorem mdiv_anti{a b:Qx}(h1:Gf a b=true)(h2:Gf b a=true):a=b:=
 have h1:=Gd.mp h1;have h2:=Gd.mp h2
 Prod.ext (Nat.le_antisymm h1.1 h2.1) (Nat.le_antisymm h1.2 h2.2)
theorem mdiv_trans{a b c:Qx}(h1:Gf a b=true)(h2:Gf b c=true):Gf a c=true:=
 have h1:=Gd.mp h1;have h2:=Gd.mp h2
 Gd.mpr ⟨Nat.le_trans h1.1 h2.1,Nat.le_trans h1.2 h2.2⟩
theorem elt_div{o hg:Nat}{gs:List PG}(hgs:∀g∈gs,Elt o 4 g){g:PG}(e:Elt o hg g)(hh:hg≤100000):∃(L:List Qx) (nd:Nat) (r:Tm),nd≤10∧(∀x∈L,mlt o x g.2=true)∧Jz o (mkB gs) g.1 [] nd r∧Ok r∧(∀n∈keys r,(n=g.2∨n∈L)∧∀g'∈gs,Gf g'.2 n=false)∧Hb (hg+50) (co r)∧Rp gs (fun _=>True) (fun n=>co g.1 n-co r n)∧((∀g'∈gs,Gf g'.2 g.2=false)→co r g.2=1):=by
 refine zA3 e fun p dc hb=>zA4 p fun ok sz ld one=>?_;have hd:∀n∈keys g.1,n.1+n.2≤3:=fun n hn=>Nat.le_trans (dc.2 n hn) (Nat.le_trans dc.1 (by decide));refine z21 (List.append_of_mem (mem_mons (o:=o).mpr (hd _ (Go ld).1))) fun pre L hL=>?_;have T:=mons_tl hL;have h10:(g.2::L).length≤10:=Nat.le_trans (Nat.le_add_left ..) (Nat.le_of_eq (tl_len hL));have hm:(g.2::L).length*(4+1)≤10*(4+1):=Nat.mul_le_mul_right _ h10;refine z21 (div_nil (h:=hg) hgs hL ok (fun n hn=>((Go ld).2 n hn).elim (fun e=>e▸ .head _) fun e=>.tail _ (T.mem n (hd n hn) e)) hb (Nat.lt_of_le_of_lt (Nat.add_le_add hh hm) (by decide))) fun nd r E=>
  ⟨L,nd,r,Nat.le_trans E.le h10,T.lt,E.run,E.ok,fun n hn=>?_,E.hb.up (Nat.add_le_add_left hm hg),(E.rp.mono (fun _ h=>h) fun _ _=>trivial).cast fun n=>by rw[U5,Rat.add_zero],fun hno=>(E.head g.2 L rfl hno).trans one⟩
 have h:=(E.ks n hn).resolve_left fun h=>nomatch h;exact⟨Q5 h.1,h.2⟩
theorem sorted_eq{o:Nat}:∀{L M:List Qx},L.Pairwise (fun a b=>mlt o a b=true)→M.Pairwise (fun a b=>mlt o a b=true)→(∀x,x∈L↔x∈M)→L=M
 |[],[],_,_,_=>rfl
 |[],y::M,_,_,h=>by have:=(h y).mpr (.head _);cases this
 |x::L,[],_,_,h=>by have:=(h x).mp (.head _);cases this
 |x::L,y::M,hL,hM,h=>by
  rw[List.pairwise_cons]at hL hM;have hxy:x=y:=by
   rcases Q5 ((h x).mp (.head _))with e|e
   ·exact e
   ·rcases Q5 ((h y).mpr (.head _))with e'|e'
    ·exact e'.symm
    ·have a:=hM.1 x e;have b:=hL.1 y e';rw[Zq a]at b;cases b
  subst hxy;congr 1;refine sorted_eq hL.2 hM.2 fun z=>?_;constructor
  ·intro hz;rcases Q5 ((h z).mp (.tail _ hz))with e|e
   ·subst e;have:=hL.1 z hz;rw[Yl]at this;cases this
   ·exact e
  ·intro hz;rcases Q5 ((h z).mpr (.tail _ hz))with e|e
   ·subst e;have:=hM.1 z hz;rw[Yl]at this;cases this
   ·exact e
section
variable{o:Nat}{Z:PF→Prop}{F0:List PF}{gs H:List PG}
theorem below_form(hz:ZC Z)(h0:Z fun _=>0)(E:End o Z F0 gs)(F:Form o Z F0 H):(∀h∈H,∃g∈gs,Gf g.2 h.2=true)∧(∀g∈gs,∃h∈H,Gf h.2 g.2=true):=by
 constructor
 ·intro h hh;have hr:=F.gen gs E.gen h hh;obtain⟨⟨ok,_,ld,one⟩,_,_⟩:=F.elt h hh;rcases rp_bound (o:=o) hr with hzero|⟨t,_,ht⟩
  ·rw[hzero]at one;exact absurd one (by decide)
  ·rcases buch (fun g hg=>(E.elt g hg).1) E.rep t _ ht with hzero|⟨m,hm,hmle,g,hg,hd⟩
   ·rw[hzero]at one;exact absurd one (by decide)
   ·refine⟨g,hg,?_⟩;have hkm:=(Gi ok).mpr hm;have h1:=(Go ld).2 m hkm;have h2:=hmle h.2 (by rw[one];decide);have:m=h.2:=by
     rcases h1 with e|e
     ·exact e
     ·rcases h2 with e'|e'
      ·exact e'.symm
      ·rw[Zq e]at e';cases e'
    rw[←this];exact hd
 ·intro g hg;cases hd:H.any (fun h=>Gf h.2 g.2)with
  |true=>
   refine z12 (List.any_eq_true.mp hd) fun h hh hd=>?_;exact⟨h,hh,hd⟩
  |false=>
   exfalso;have hno:∀h∈H,Gf h.2 g.2=false:=fun h hh=>by
    have:=List.any_eq_false.mp hd h hh;simpa using this
   obtain⟨L,nd,r,_,_,_,okr,hk,_,hrp,hone⟩:=elt_div F.elt (E.elt g hg) (by exact Gh (.leaf 0) 1 (.num 6654) (.num 100000) [] rfl);have hzr:Z (co r):=by
    have h3:=hz.rp F.z h0 hrp;have:=hz.add _ _ (E.z g hg) (hz.smul (-1) _ h3);have e:(fun n=>co g.1 n+ -1*(co g.1 n-co r n))=co r:=by funext n;grind
    rwa[e]at this
   have:=F.ind (co r) hzr (fun n hn=>(hk n ((Gi okr).mpr hn)).2) g.2;rw[hone hno]at this;exact absurd this (by decide)
theorem minR_mem{α:Type}{L:List Qx}{f:α→Qx}:∀{t:Nat} {l:List α} {x:α},x∈Ua L f t l→∃s,l[s]?=some x∧keepB L (t+s) (f x)=true
 |t,b::r,x,h=>by
  simp only[Ua]at h;split at h
  ·rename_i hk;rcases Q5 h with rfl|h
   ·exact⟨0,rfl,hk⟩
   ·refine z12 (minR_mem h) fun s h1 h2=>?_;exact⟨s+1,by simpa using h1,by rw[show t+(s+1)=t+1+s by exact Nat.le_antisymm (Gh (G6 _ _) 1 (.add (.var 0) (.add (.var 1) (.num 1))) (.add (.add (.var 0) (.num 1)) (.var 1)) [] rfl) (Gh (G6 _ _) 1 (.add (.add (.var 0) (.num 1)) (.var 1)) (.add (.var 0) (.add (.var 1) (.num 1))) [] rfl)];exact h2⟩
  ·refine z12 (minR_mem h) fun s h1 h2=>?_;exact⟨s+1,by simpa using h1,by rw[show t+(s+1)=t+1+s by exact Nat.le_antisymm (Gh (G6 _ _) 1 (.add (.var 0) (.add (.var 1) (.num 1))) (.add (.add (.var 0) (.num 1)) (.var 1)) [] rfl) (Gh (G6 _ _) 1 (.add (.add (.var 0) (.num 1)) (.var 1)) (.add (.var 0) (.add (.var 1) (.num 1))) [] rfl)];exact h2⟩
theorem minR_of{α:Type}{L:List Qx}{f:α→Qx}:∀{t:Nat} {l:List α} {x:α} {s:Nat},l[s]?=some x→keepB L (t+s) (f x)=true→x∈Ua L f t l
 |t,b::r,x,0,h,hk=>by
  simp only[List.getElem?_cons_zero,Q1]at h;subst h;simp only[Ua];rw[if_pos (by simpa using hk)];exact .head _
 |t,b::r,x,s+1,h,hk=>by
  have:=minR_of (t:=t+1) (l:=r) (x:=x) (s:=s) (by simpa using h) (by rw[show t+1+s=t+(s+1) by exact Nat.le_antisymm (Gh (G6 _ _) 1 (.add (.add (.var 0) (.num 1)) (.var 1)) (.add (.var 0) (.add (.var 1) (.num 1))) [] rfl) (Gh (G6 _ _) 1 (.add (.var 0) (.add (.var 1) (.num 1))) (.add (.add (.var 0) (.num 1)) (.var 1)) [] rfl)];exact hk);simp only[Ua];split
  ·exact .tail _ this
  ·exact this
theorem keepB_iff{L:List Qx}{t:Nat}{l:Qx}:keepB L t l=true↔(∀s q,s<t→L[s]?=some q→Gf q l=false)∧(∀s q,t<s→L[s]?=some q→q≠l→Gf q l=false):=by
 unfold keepB;rw[Option.isNone_iff_eq_none,fdv_none];constructor
 ·intro h;refine⟨fun s q hs hq=>h q (List.mem_append_left _ ?_),fun s q hs hq hne=>h q (List.mem_append_right _ ?_)⟩
  ·exact List.mem_iff_getElem?.mpr ⟨s,by rw[List.getElem?_take_of_lt hs];exact hq⟩
  ·rw[List.mem_filter];refine⟨List.mem_iff_getElem?.mpr ⟨s-(t+1),?_⟩,by simpa using hne⟩;rw[List.getElem?_drop,show t+1+(s-(t+1))=s by lia];exact hq
 ·rintro⟨h1,h2⟩ q hq;rcases Qh hq with hq|hq
  ·refine z11 (Qn hq) fun s hs=>?_;by_cases hst:s<t
   ·rw[List.getElem?_take_of_lt hst]at hs;exact h1 s q hst hs
   ·rw[List.getElem?_eq_none (by rw[List.length_take];lia)]at hs;cases hs
  ·rw[List.mem_filter]at hq;refine z11 (Qn hq.1) fun s hs=>?_;rw[List.getElem?_drop]at hs;exact h2 (t+1+s) q (by exact Jl (G6 _ _) 1 (.var 0) (.add (.add (.var 0) (.num 1)) (.var 1)) [] rfl) hs (by simpa using hq.2)
theorem min_leads(hz:ZC Z)(h0:Z fun _=>0)(E:End o Z F0 gs)(F:Form o Z F0 H):(∀g∈minG gs,g.2∈H.map (·.2))∧(∀h∈H,∃g∈minG gs,g.2=h.2)∧((minG gs).map (·.2)).Nodup:=by
 refine zA2 (below_form hz h0 E F) fun f2 f3=>?_;have hL:∀{s:Nat} {g:PG},gs[s]?=some g→(gs.map (·.2))[s]?=some g.2:=fun h=>by rw[Qd,h];rfl
 refine⟨fun g hg=>?_,fun h hh=>?_,?_⟩
 ·refine z12 (minR_mem hg) fun s h1 h2=>?_;rw[Nat.zero_add,keepB_iff]at h2;refine z12 (f3 g (Qf h1)) fun h hh hd=>?_;refine z12 (f2 h hh) fun g' hg' hd'=>?_;have hdd:=mdiv_trans hd' hd;refine z11 (Qn hg') fun s' hs'=>?_;have:g'.2=g.2:=by
   rcases Nat.lt_trichotomy s' s with hlt|heq|hgt
   ·have:=h2.1 s' g'.2 hlt (hL hs');rw[hdd]at this;cases this
   ·subst heq;rw[h1]at hs';cases hs';rfl
   ·by_cases e:g'.2=g.2
    ·exact e
    ·have:=h2.2 s' g'.2 hgt (hL hs') e;rw[hdd]at this;cases this
  rw[this]at hd';rw[mdiv_anti hd' hd];exact Qj hh
 ·have hsame:∀g∈gs,Gf g.2 h.2=true→g.2=h.2:=fun g hg hd=>by
   refine z12 (f3 g hg) fun h' hh' hd'=>?_;have:=F.anti h' hh' h hh (mdiv_trans hd' hd);rw[this]at hd';exact mdiv_anti hd hd'
  refine z12 (f2 h hh) fun g hg hd=>?_;refine z11 (Qn hg) fun s0 hs0=>?_;have first:∀s:Nat,(∃g:PG,gs[s]?=some g∧g.2=h.2)→∃(s':Nat) (g:PG),gs[s']?=some g∧g.2=h.2∧∀(u:Nat) (g':PG),u<s'→gs[u]?=some g'→g'.2≠h.2:=by
   intro s;induction s using Nat.strongRecOn with
   |_ s ih=>
    rintro⟨g,h1,h2⟩;by_cases hex:∃(u:Nat) (g':PG),u<s∧gs[u]?=some g'∧g'.2=h.2
    ·refine z23 hex fun u g' hu h3 h4=>?_;exact ih u hu ⟨g',h3,h4⟩
    ·exact⟨s,g,h1,h2,fun u g' hu h3 h4=>hex ⟨u,g',hu,h3,h4⟩⟩
  refine z23 (first s0 ⟨g,hs0,hsame g hg hd⟩) fun s g1 hs he hfirst=>?_;refine⟨g1,minR_of (s:=s) hs ?_,he⟩;rw[Nat.zero_add,keepB_iff,he];refine⟨fun u q hu hq=>?_,fun u q hu hq hne=>?_⟩
  ·rw[Qd]at hq;obtain⟨g',hg',rfl⟩:=Qo hq;cases hd2:Gf g'.2 h.2 with
   |false=>rfl
   |true=>exact absurd (hsame g' (Qf hg') hd2) (hfirst u g' hu hg')
  ·rw[Qd]at hq;obtain⟨g',hg',rfl⟩:=Qo hq;cases hd2:Gf g'.2 h.2 with
   |false=>rfl
   |true=>exact absurd (hsame g' (Qf hg') hd2) hne
 ·have key:∀(t:Nat) (l:List PG),(∀s,l[s]?=gs[t+s]?)→((Ua (gs.map (·.2)) (·.2) t l).map (·.2)).Nodup:=by
   intro t l;induction l generalizing t with
   |nil=>intro _;exact List.nodup_nil
   |cons x r ih=>
    intro hl;have hx:gs[t]?=some x:=by have:=hl 0;simpa using this.symm
    have ih':=ih (t+1) fun s=>by have:=hl (s+1);rw[show t+1+s=t+(s+1) by exact Nat.le_antisymm (Gh (G6 _ _) 1 (.add (.add (.var 0) (.num 1)) (.var 1)) (.add (.var 0) (.add (.var 1) (.num 1))) [] rfl) (Gh (G6 _ _) 1 (.add (.var 0) (.add (.var 1) (.num 1))) (.add (.add (.var 0) (.num 1)) (.var 1)) [] rfl),←this];simp
    simp only[Ua];split
    ·rw[Q7,List.nodup_cons];refine⟨fun hm=>?_,ih'⟩;refine z12 (Qg hm) fun y hy he=>?_;refine z12 (minR_mem hy) fun s h1 h2=>?_;rw[keepB_iff]at h2;have:=h2.1 t x.2 (by exact Jl (G6 _ _) 1 (.var 0) (.add (.add (.var 0) (.num 1)) (.var 1)) [] rfl) (hL hx);rw[he,show Gf x.2 x.2=true by rw[Gd];lia]at this;cases this
    ·exact ih'
  exact key 0 gs fun s=>by simp
end
noncomputable def Zk(gs H:List PG):Prop:=gs.length=H.length∧∀(i:Nat) (g h:PG),gs[i]?=some g→H[i]?=some h→(∀n,co g.1 n=co h.1 n)∧g.2=h.2
theorem idxL_mem{α:Type}:∀{s:Nat} {l:List α} {x:Nat×α},x∈idxL s l→s≤x.1∧l[x.1-s]?=some x.2
 |s,y::r,x,h=>by
  rcases Q5 h with rfl|h
  ·exact⟨Qs _,by simp⟩
  ·obtain⟨h1,h2⟩:=idxL_mem h;refine⟨by exact Gh (G6 _ _) 1 (.var 0) (.var 1) [Gb 1 (.add (.var 0) (.num 1)) (.var 1)] rfl h1,?_⟩;rw[show x.1-s=(x.1-(s+1))+1 by lia];simpa using h2
theorem keyL_mem{G:List PG}{p:Qx×Nat}(h:p∈keyL G):∃g,G[p.2]?=some g∧g.2=p.1:=by
 obtain⟨x,hx,rfl⟩:=Qg h;obtain⟨_,h2⟩:=idxL_mem hx;exact⟨x.2,by simpa using h2,rfl⟩
section
variable{o:Nat}{Z:PF→Prop}{F0:List PF}{gs H:List PG}
theorem Elt.of_same{g h:PG}(e:Elt o 4 h)(p:PG1 o g)(hc:∀n,co g.1 n=co h.1 n)(hl:g.2=h.2):Elt o 4 g:=by
 refine⟨p,⟨by rw[hl];exact e.2.1.1,fun n hn=>?_⟩,?_⟩
 ·rw[hl];refine e.2.1.2 n ((Gi e.1.1).mpr ?_);rw[←hc];exact(Gi p.1).mp hn
 ·have:co g.1=co h.1:=funext hc;rw[this];exact e.2.2
noncomputable def SmG(g h:PG):Prop:=(∀n,co g.1 n=co h.1 n)∧g.2=h.2
theorem Zk.left{gs H:List PG}(S:Zk gs H){g:PG}(hg:g∈gs):∃h∈H,SmG g h:=
 z11 (Qn hg) fun i e=>have hi:=S.1▸Yc e;have h:=Qe hi;⟨H[i],List.getElem_mem hi,S.2 i g _ e h⟩
theorem Zk.right{gs H:List PG}(S:Zk gs H){h:PG}(hh:h∈H):∃g∈gs,SmG g h:=
 z11 (Qn hh) fun i e=>have hi:=S.1.symm▸Yc e;have h:=Qe hi;⟨gs[i],List.getElem_mem hi,S.2 i _ _ h e⟩
theorem Zk.snoc{gs H:List PG}(S:Zk gs H){g h:PG}(e:SmG g h):Zk (gs++[g]) (H++[h]):=
 ⟨by rw[Q8,Q8,S.1];rfl,fun i g' h' a b=>(Ut a).elim (fun a=>(Ut b).elim (S.2 i g' h' a) fun b=>absurd (Yc a) (by rw[b.1,S.1];exact Nat.lt_irrefl _)) fun a=>(Ut b).elim (fun b=>absurd (Yc b) (by rw[a.1,S.1];exact Nat.lt_irrefl _)) fun b=>a.2▸b.2▸e⟩
theorem tscale_one(r:Tm):Gv r 1=r:=(if_neg (by decide)).trans ((show(r.map fun x=>(x.1,x.2*1))=r.map id from List.map_congr_left fun x _=>Prod.ext rfl (Rat.mul_one _)).trans (List.map_id _))
theorem ZC.rest{Z:PF→Prop}(hz:ZC Z){f k:PF}(hf:Z f)(h:Z fun n=>f n-k n):Z k:=
 (funext fun n=>by grind:(fun n=>f n-(f n-k n))=k)▸hz.sub hf h
structure RedE(o:Nat)(found:List PG)(g h:PG)(nd:Nat)(r:Tm):Prop where
 le:nd≤10
 run:Jz o (mkB found) g.1 [] nd r
 ok:Ok r
 sz:Sz r
 lead:Jk o r=some g.2
 one:co r g.2=1
 eq:∀n,co r n=co h.1 n
theorem red_elt(hz:ZC Z)(h0:Z fun _=>0)(E:End o Z F0 gs)(F:Form o Z F0 H){H1 H2 found:List PG}{g h:PG}(e:H=H1++h::H2)(S:Zk found H1)(hpg:∀g∈found,PG1 o g)(hg:g∈gs)(hgl:g.2=h.2):∃nd r,RedE o found g h nd r:=by
 have hs:=List.pairwise_append.mp (e▸F.sorted);have hh:h∈H:=e▸List.mem_append_right _ (.head _);have h1:∀{x},x∈H1→x∈H:=fun hx=>e▸List.mem_append_left _ hx;have hfe:∀g'∈found,Elt o 4 g':=fun g' hg'=>z12 (S.left hg') fun h' hh' s=>(F.elt h' (h1 hh')).of_same (hpg g' hg') s.1 s.2;have hzf:∀g'∈found,Z (co g'.1):=fun g' hg'=>z12 (S.left hg') fun h' hh' s=>(funext s.1:co g'.1=co h'.1)▸F.z h' (h1 hh');refine z31 (elt_div hfe (E.elt g hg) (by decide)) fun L nd r x=>⟨nd,r,?_⟩
 have hno:∀g'∈found,Gf g'.2 g.2=false:=fun g' hg'=>eq_false_of_ne_true fun hd=>z12 (S.left hg') fun h' hh' s=>by
  rw[s.2,hgl]at hd;exact fft (Yl (o:=o)) (F.anti h' (h1 hh') h hh hd▸hs.2.2 h' hh' h (.head _))
 refine zA4 x fun x1 x2 x3 x=>zA5 x fun okr x5 x6 x7 x8=>?_;have hone:=x8 hno;have hzr:Z (co r):=hz.rest (E.z g hg) (hz.rp hzf h0 x7);have hkr:g.2∈keys r:=(Gi okr).mpr (hone▸by decide);refine⟨x1,x3,okr,x6.Sz okr (by decide),tlead_iff.mpr ⟨hkr,fun n hn=>(x5 n hn).1.imp id (x2 n)⟩,hone,fun n=>?_⟩;have hd:=F.ind _ (hz.sub hzr (F.z h hh)) (fun n hn=>?_) n
 ·grind
 have ph:=(F.elt h hh).1;have hnl:n≠h.2:=fun e=>hn (by rw[e,←hgl,hone,hgl,ph.2.2.2,Rat.sub_self]);by_cases hr0:co r n=0
 ·exact F.red h hh n ((Gi ph.1).mpr fun e=>hn (by rw[hr0,e,Rat.sub_self])) hnl
 have hx:=x5 n ((Gi okr).mpr hr0);have hlt:mlt o n h.2=true:=hgl▸hx.1.elim (fun e=>absurd (e.trans hgl) hnl) (x2 n);intro h' hh';rw[e]at hh';refine(Qh hh').elim (fun hh'=>z12 (S.right hh') fun g' hg' s=>s.2▸hx.2 g' hg') fun hh'=>eq_false_of_ne_true fun hd=>?_;have hl:=mle_lt (mdiv_le (o:=o) hd) hlt;exact(Q5 hh').elim (fun e=>fft (Yl (o:=o)) (e▸hl)) fun hh'=>fft (Zq hl) ((List.pairwise_cons.mp hs.2.1).1 h' hh')
theorem red_run(hz:ZC Z)(h0:Z fun _=>0)(E:End o Z F0 gs)(F:Form o Z F0 H):∀(ks:List (Qx×Nat)) (H1 H2 found:List PG),H=H1++H2→ks.map (·.1)=H2.map (·.2)→(∀p∈ks,p∈keyL (minG gs))→Zk found H1→(∀g∈found,PG1 o g)→RedRun o (minG gs) (fun f=>Zk f H) ks found:=by
 intro ks;induction ks with
 |nil=>
  intro H1 H2 found e hk _ S _;rw[List.map_eq_nil_iff.mp hk.symm,Qp]at e;exact e▸S
 |cons p ks ih=>
  intro H1 H2 found e hk hp S hpg;cases H2 with
  |nil=>exact nomatch hk
  |cons h H2=>
   have hk:=List.cons.inj hk;refine z12 (keyL_mem (hp _ (.head _))) fun g hg hgm=>z21 (red_elt hz h0 E F e S hpg (minR_sub.subset (Qf hg)) (hgm.trans hk.1)) fun nd r R=>?_;have hi:(co r g.2)⁻¹ =1:=by rw[R.one];grind
   have hP:PG1 o (r,g.2):=⟨R.ok,R.sz,R.lead,R.one⟩
   refine⟨g,hg,nd,r,R.run,Nat.le_trans R.le (by decide),g.2,R.lead,R.ok,R.sz,?_⟩;rw[hi,tscale_one];exact⟨sz_one,hP,ih (H1++[h]) H2 _ (by rw[Qb];exact e) hk.2 (fun p h=>hp p (.tail _ h)) (S.snoc ⟨R.eq,hgm.trans hk.1⟩) (Ys hpg hP)⟩
theorem form_ok(hz:ZC Z)(h0:Z fun _=>0)(E:End o Z F0 gs)(F:Form o Z F0 H):FormOk o (fun f=>Zk f H) gs:=by
 obtain⟨h1,h2,h3⟩:=min_leads hz h0 E F;have hHn:(H.map (·.2)).Pairwise (fun a b=>mlt o a b=true):=List.pairwise_map.mpr F.sorted;have hHnd:(H.map (·.2)).Nodup:=hHn.imp fun{a b} hab e=>by rw[e,Yl]at hab;cases hab
 have hmem:∀x,x∈(minG gs).map (·.2)↔x∈H.map (·.2):=fun x=>⟨fun hx=>by
  obtain⟨g,hg,rfl⟩:=Qg hx;exact h1 g hg,fun hx=>by
  obtain⟨h,hh,rfl⟩:=Qg hx;obtain⟨g,hg,e⟩:=h2 h hh;rw[←e];exact Qj hg⟩
 have hlen:(minG gs).length=H.length:=by
  have a:=Uo h3 fun x hx=>(hmem x).mp hx;have b:=Uo hHnd fun x hx=>(hmem x).mpr hx;simp only[Qi]at a b;exact Nat.le_antisymm (Gh (G6 _ _) 1 (.var 0) (.var 1) [Gb 1 (.var 0) (.var 1)] rfl a) (Gh (G6 _ _) 1 (.var 0) (.var 1) [Gb 1 (.var 0) (.var 1)] rfl b)
 refine⟨by rw[hlen];exact F.len,h3,fun ks hk hkl hsort=>?_⟩;have hks:ks.map (·.1)=H.map (·.2):=by
  refine sorted_eq (List.pairwise_map.mpr hsort) hHn fun x=>?_;rw[←hmem];constructor
  ·intro hx;obtain⟨p,hp,rfl⟩:=Qg hx;obtain⟨g,hg,e⟩:=keyL_mem ((hk p).mp hp);rw[←e];exact Qj (Qf hg)
  ·intro hx;rw[←keyL_fst]at hx;obtain⟨p,hp,rfl⟩:=Qg hx;exact Qj ((hk p).mpr hp)
 exact red_run hz h0 E F ks [] H [] rfl hks (fun p hp=>(hk p).mp hp) ⟨rfl,fun _ _ _ h=>(nomatch List.getElem?_nil.symm.trans h)⟩ fun _ h=>nomatch h
end
abbrev Pt:=Rat×Rat
noncomputable def cf:Tm→PF
 |[],_=>0
 |(m,c)::r,n=>(if n=m then c else 0)+cf r n
noncomputable def pw(p:Pt)(m:Qx):Rat:=p.1^m.1*p.2^m.2
noncomputable def ev:Tm→Pt→Rat
 |[],_=>0
 |(m,c)::r,p=>c*pw p m+ev r p
theorem rpow_add(x:Rat)(a b:Nat):x^(a+b)=x^a*x^b:=by
 induction b with
 |zero=>rw[Nat.add_zero,Rat.pow_zero];grind
 |succ b ih=>rw[←Nat.add_assoc,Rat.pow_succ,Rat.pow_succ,ih];grind
theorem pw_madd(p:Pt)(a b:Qx):pw p (Gq a b)=pw p a*pw p b:=by
 simp only[pw,Gq,rpow_add];grind
theorem cf_co{T:Tm}(h:(keys T).Nodup):∀n,cf T n=co T n:=by
 induction T with
 |nil=>intro n;rfl
 |cons x r ih=>
  obtain⟨m,c⟩:=x;have hnk:m∉keys r∧(keys r).Nodup:=by simpa[keys]using h
  intro n;simp only[cf,ih hnk.2];unfold co;simp only[Jb];by_cases e:m=n
  ·subst e;rw[if_pos rfl,if_pos rfl,Ja.mpr hnk.1];simp;grind
  ·rw[if_neg e,if_neg (Ne.symm e)];grind
noncomputable def tmul(T:Tm)(s:Qx)(c:Rat):Tm:=T.map fun x=>(Gq x.1 s,c*x.2)
theorem cf_app(T U:Tm)(n:Qx):cf (T++U) n=cf T n+cf U n:=by
 induction T with
 |nil=>simp only[List.nil_append,cf];grind
 |cons x r ih=>obtain⟨m,c⟩:=x;simp only[List.cons_append,cf,ih];grind
theorem ev_app(T U:Tm)(p:Pt):ev (T++U) p=ev T p+ev U p:=by
 induction T with
 |nil=>simp only[List.nil_append,ev];grind
 |cons x r ih=>obtain⟨m,c⟩:=x;simp only[List.cons_append,ev,ih];grind
theorem cf_tmul(T:Tm)(s:Qx)(c:Rat)(n:Qx):cf (tmul T s c) n=c*sh s (cf T) n:=by
 induction T with
 |nil=>
  have h0:sh s (cf []) n=0:=by unfold sh;split<;>rfl
  rw[h0];show(0:Rat)=_;grind
 |cons x r ih=>
  obtain⟨m,d⟩:=x;have ih':cf (List.map (fun x=>(Gq x.1 s,c*x.2)) r) n=c*sh s (cf r) n:=ih;simp only[tmul,Q7,cf,ih'];unfold sh;by_cases h:n=Gq m s
  ·subst h;rw[if_pos rfl,if_pos (Zr m s),if_pos (Zr m s),Yy];simp only[if_true];grind
  ·rw[if_neg h];by_cases h2:Gf s n=true
   ·rw[if_pos h2,if_pos h2];have:Gu n s≠m:=fun e=>h (by rw[←e];exact(J2 h2).symm);simp only[if_neg this];grind
   ·rw[if_neg h2,if_neg h2];grind
theorem ev_tmul(T:Tm)(s:Qx)(c:Rat)(p:Pt):ev (tmul T s c) p=c*pw p s*ev T p:=by
 induction T with
 |nil=>simp only[tmul,Qm,ev];grind
 |cons x r ih=>
  obtain⟨m,d⟩:=x;have ih':ev (List.map (fun x=>(Gq x.1 s,c*x.2)) r) p=c*pw p s*ev r p:=ih;simp only[tmul,Q7,ev,ih',pw_madd];grind
theorem ev_split(T:Tm)(m:Qx)(p:Pt):ev T p=cf T m*pw p m+ev (T.filter fun x=>decide (x.1≠m)) p:=by
 induction T with
 |nil=>simp only[List.filter_nil,ev,cf];grind
 |cons x r ih=>
  obtain⟨k,c⟩:=x;simp only[ev,cf,List.filter_cons];by_cases h:k=m
  ·subst h;simp only[if_true,ne_eq,not_true,decide_false,Qq,if_false];rw[ih];grind
  ·rw[if_neg (Ne.symm h)];simp only[ne_eq,h,not_false_eq_true,decide_true,if_true,ev];rw[ih];grind
theorem cf_filter(T:Tm)(m n:Qx):cf (T.filter fun x=>decide (x.1≠m)) n=if n=m then 0 else cf T n:=by
 induction T with
 |nil=>simp only[List.filter_nil,cf];split<;>rfl
 |cons x r ih=>
  obtain⟨k,c⟩:=x;simp only[List.filter_cons];by_cases h:k=m
  ·subst h;simp only[ne_eq,not_true,decide_false,Qq,if_false,ih,cf];split
   ·rfl
   ·grind
  ·simp only[ne_eq,h,not_false_eq_true,decide_true,if_true,cf,ih];by_cases h2:n=m
   ·subst h2;rw[if_pos rfl,if_pos rfl,if_neg (Ne.symm h)];grind
   ·rw[if_neg h2,if_neg h2]
theorem ev_zero(p:Pt):∀(l:Nat) (T:Tm),T.length≤l→(∀n,cf T n=0)→ev T p=0:=by
 intro l;induction l with
 |zero=>
  intro T hl _;cases T with
  |nil=>rfl
  |cons x r=>simp at hl
 |succ l ih=>
  intro T hl h;cases T with
  |nil=>rfl
  |cons x r=>
   rw[ev_split _ x.1 p,h x.1,ih ((x::r).filter fun y=>decide (y.1≠x.1)) ?_ (fun n=>by rw[cf_filter,h n];split<;>rfl)]
   ·grind
   ·simp only[List.filter_cons,ne_eq,not_true,decide_false,Qq,if_false];have:(r.filter fun y=>decide (¬y.1=x.1)).length≤r.length:=List.length_filter_le _ _;simp only[Qa]at hl;exact Gh (Y6 _ _ _) 1 (.var 0) (.var 1) [Gb 1 (.add (.var 2) (.num 1)) (.add (.var 1) (.num 1)),Gb 1 (.var 0) (.var 2)] rfl hl this
theorem ev_eq{T U:Tm}(h:∀n,cf T n=cf U n)(p:Pt):ev T p=ev U p:=by
 have h0:=ev_zero p _ (T++tmul U (0,0) (-1)) (Qs _) (fun n=>by rw[cf_app,cf_tmul,sh_zero,h];grind);rw[ev_app,ev_tmul]at h0;have:pw p (0,0)=1:=by simp only[pw,Rat.pow_zero];grind
 rw[this]at h0;grind
noncomputable def Zp(pts:List Pt)(f:PF):Prop:=∃T:Tm,(∀n,f n=cf T n)∧∀p∈pts,ev T p=0
theorem Zp.ev{pts:List Pt}{f:PF}(h:Zp pts f){T:Tm}(e:∀n,f n=cf T n):∀p∈pts,ev T p=0:=fun p hp=>by
 refine z12 h fun U h1 h2=>?_;rw[ev_eq (T:=T) (U:=U) (fun n=>by rw[←e,h1])];exact h2 p hp
theorem Zp.zero(pts:List Pt):Zp pts fun _=>0:=⟨[],fun _=>rfl,fun _ _=>rfl⟩
theorem Zp.zc(pts:List Pt):ZC (Zp pts)where
 add:=fun f g ⟨T,a,b⟩ ⟨U,c,d⟩=>⟨T++U,fun n=>by show f n+g n=_;rw[cf_app,a,c],fun p hp=>by rw[ev_app,b p hp,d p hp];grind⟩
 smul:=fun q f ⟨T,a,b⟩=>⟨tmul T (0,0) q,fun n=>by
  show q*f n=_;have:f=cf T:=funext a;rw[cf_tmul,sh_zero,this],fun p hp=>by rw[ev_tmul,b p hp];grind⟩
 sh:=fun s f ⟨T,a,b⟩=>⟨tmul T s 1,fun n=>by
  have:f=cf T:=funext a;rw[cf_tmul,this];grind,fun p hp=>by rw[ev_tmul,b p hp];grind⟩
theorem Zp.sub{pts pts':List Pt}{f:PF}(h:Zp pts f)(hs:∀p∈pts',p∈pts):Zp pts' f:=let⟨T,a,b⟩:=h;⟨T,a,fun p hp=>b p (hs p hp)⟩
inductive Sp(F:List PF):PF→Prop
 |zero:Sp F (fun _=>0)
 |add {f:PF} (c:Rat) (s:Qx) (g:PF):g∈F→Sp F f→Sp F (fun n=>f n+c*sh s g n)
theorem Sp.cast{F:List PF}{f g:PF}(h:Sp F f)(e:∀n,f n=g n):Sp F g:=by
 have:f=g:=funext e;rwa[←this]
theorem Sp.mono{F F':List PF}{f:PF}(h:Sp F f)(hs:∀g∈F,g∈F'):Sp F' f:=by
 induction h with
 |zero=>exact .zero
 |add c s g hg _ ih=>exact .add c s g (hs g hg) ih
theorem Sp.plus{F:List PF}{f g:PF}(h1:Sp F f)(h2:Sp F g):Sp F (fun n=>f n+g n):=by
 induction h2 with
 |zero=>exact h1.cast fun n=>by grind
 |add c s g hg _ ih=>exact(Sp.add c s g hg ih).cast fun n=>by grind
theorem Sp.smul{F:List PF}{f:PF}(a:Rat)(h:Sp F f):Sp F (fun n=>a*f n):=by
 induction h with
 |zero=>exact Sp.zero.cast fun n=>by grind
 |add c s g hg _ ih=>exact(Sp.add (a*c) s g hg ih).cast fun n=>by grind
theorem Sp.one{F:List PF}{g:PF}(hg:g∈F):Sp F g:=(Sp.add 1 (0,0) g hg .zero).cast fun n=>by rw[sh_zero];grind
theorem Sp.shift{F:List PF}{f:PF}(t:Qx)(h:Sp F f):Sp F (sh t f):=by
 induction h with
 |zero=>exact Sp.zero.cast fun n=>by unfold sh;split<;>rfl
 | @add f c s g hg _ ih=>
  refine(Sp.add c (Gq s t) g hg ih).cast fun n=>?_;rw[sh_add t f (fun n=>c*sh s g n),sh_smul t c (sh s g),sh_sh]
theorem Sp.trans{F F':List PF}{f:PF}(h:Sp F f)(hs:∀g∈F,Sp F' g):Sp F' f:=by
 induction h with
 |zero=>exact .zero
 |add c s g hg _ ih=>exact ih.plus (((hs g hg).shift s).smul c)
theorem Sp.rp{F:List PF}{gs:List PG}{f:PF}(h:Sp F f)(hs:∀g∈F,Rp gs (fun _=>True) g):Rp gs (fun _=>True) f:=by
 induction h with
 |zero=>exact .zero
 |add c s g hg _ ih=>exact ih.plus (((hs g hg).shift s fun _ _=>trivial).smul c)
theorem rp_sp{gs:List PG}{F:List PF}{Q:Qx→Prop}{f:PF}(h:Rp gs Q f)(hs:∀g∈gs,Sp F (co g.1)):Sp F f:=by
 induction h with
 |zero=>exact .zero
 |add c s g hg _ _ ih=>exact ih.plus (((hs g hg).shift s).smul c)
theorem Sp.z{F:List PF}{pts:List Pt}{f:PF}(h:Sp F f)(hs:∀g∈F,Zp pts g):Zp pts f:=by
 induction h with
 |zero=>exact Zp.zero pts
 |add c s g hg _ ih=>exact(Zp.zc pts).add _ _ ih ((Zp.zc pts).smul c _ ((Zp.zc pts).sh s _ (hs g hg)))
noncomputable def Gen(F:List PF)(pts:List Pt):Prop:=∀T:Tm,(∀p∈pts,ev T p=0)→Sp F (cf T)
noncomputable def p1T(a c:Rat):Tm:=[((2,0),1),((1,0),-(a+c)),((0,0),a*c)]
noncomputable def p2T(b d:Rat):Tm:=[((0,2),1),((0,1),-(b+d)),((0,0),b*d)]
noncomputable def bq(e:PF):Tm:=L4.map fun m=>(m,e m)
theorem cf_map(e:PF):∀{L:List Qx},L.Nodup→∀n,cf (L.map fun m=>(m,e m)) n=if n∈L then e n else 0
 |[],_,n=>(if_neg List.not_mem_nil).symm
 |m::L,h,n=>by
  show(if n=m then e m else 0)+cf (L.map fun m=>(m,e m)) n=_;rw[cf_map e (List.nodup_cons.mp h).2];by_cases h1:n=m
  ·subst h1;rw[if_pos rfl,if_neg (List.nodup_cons.mp h).1,if_pos (.head _),Rat.add_zero]
  ·rw[if_neg h1,Rat.zero_add];by_cases h2:n∈L
   ·rw[if_pos h2,if_pos (.tail _ h2)]
   ·rw[if_neg h2,if_neg fun h=>(Q5 h).elim h1 h2]
theorem cf_bq(e:PF)(n:Qx):cf (bq e) n=if n∈L4 then e n else 0:=cf_map e (by decide) n
theorem bq_all{e:PF}(h:∀m∈L4,e m=0)(n:Qx):cf (bq e) n=0:=(cf_bq e n).trans ((Decidable.em (n∈L4)).elim (fun hn=>(if_pos hn).trans (h n hn)) fun hn=>if_neg hn)
theorem sh_dl(s m n:Qx):sh s (dl m) n=dl (Gq m s) n:=by
 unfold sh dl;by_cases h:n=Gq m s
 ·subst h;rw[if_pos (Zr m s),Yy,if_pos rfl,if_pos rfl]
 ·rw[if_neg h];split
  ·rename_i hd;rw[if_neg fun e=>h (by rw[←e];exact(J2 hd).symm)]
  ·rfl
theorem cf_cons(m:Qx)(c:Rat)(r:Tm)(n:Qx):cf ((m,c)::r) n=c*dl m n+cf r n:=by
 show(if n=m then c else 0)+cf r n=_;unfold dl;split
 ·rw[Rat.mul_one]
 ·rw[Rat.mul_zero]
theorem sh_cons(s m:Qx)(c:Rat)(r:Tm)(n:Qx):sh s (cf ((m,c)::r)) n=c*dl (Gq m s) n+sh s (cf r) n:=by
 rw[show cf ((m,c)::r)=fun n=>c*dl m n+cf r n from funext (cf_cons m c r),sh_add s (fun n=>c*dl m n),sh_smul];show c*sh s (dl m) n+_=_;rw[sh_dl]
theorem sh_nil(s n:Qx):sh s (cf []) n=0:=ite_self (0:Rat)
noncomputable def Rd(F:List PF)(f:PF):Prop:=∃e:PF,Sp F (fun n=>f n-cf (bq e) n)
section
variable{F:List PF}{f g h:PF}
theorem Rd.lin(x y:Rat)(hf:Rd F f)(hg:Rd F g):Rd F (fun n=>x*f n+y*g n):=
 z11 hf fun e h=>z11 hg fun e' h'=>⟨fun n=>x*e n+y*e' n,((h.smul x).plus (h'.smul y)).cast fun n=>by rw[cf_bq,cf_bq,cf_bq];split<;>grind⟩
theorem Rd.sp(hs:Sp F h)(hf:Rd F f)(e:∀n,g n=h n+f n):Rd F g:=z11 hf fun c q=>⟨c,(hs.plus q).cast fun n=>by rw[e n];grind⟩
theorem Rd.cast(hf:Rd F f)(e:∀n,f n=g n):Rd F g:=funext e▸hf
theorem Rd.box{m:Qx}(hm:m∈L4):Rd F (dl m):=⟨dl m,Sp.zero.cast fun n=>(Decidable.em (n∈L4)).elim (fun hn=>by rw[cf_bq,if_pos hn,Rat.sub_self]) fun hn=>by rw[cf_bq,if_neg hn,show dl m n=0 from if_neg (c:=n=m) fun e=>hn (e▸hm),Rat.sub_self]⟩
theorem madd_zero(u:Qx):Gq (0,0) u=u:=Prod.ext (Nat.zero_add _) (Nat.zero_add _)
theorem Rd.step{s2 s1 u:Qx}{x y:Rat}(hF:cf [(s2,1),(s1,-x),((0,0),y)]∈F)(h1:Rd F (dl (Gq s1 u)))(h0:Rd F (dl u)):Rd F (dl (Gq s2 u)):=
 Rd.sp (Sp.add 1 u _ hF .zero) (h1.lin x (-y) h0) fun n=>by rw[sh_cons,sh_cons,sh_cons,sh_nil,madd_zero];grind
end
theorem mdiv_up{s m:Qx}(h:Gf s m=true):∃u,m=Gq s u:=⟨Gu m s,((Ju ..).trans (J2 h)).symm⟩
theorem red_mono(a c b d:Rat):∀(k:Nat) (m:Qx),m.1+m.2≤k→Rd [cf (p1T a c),cf (p2T b d)] (dl m)
 |0,m,hm=>.box (mem_L4 (Nat.le_trans (Nat.le_add_right ..) (Nat.le_trans hm (by decide))) (Nat.le_trans (Nat.le_add_left ..) (Nat.le_trans hm (by decide))))
 |k+1,m,hm=>by
  rcases Nat.lt_or_ge m.1 2 with h1|h1
  ·rcases Nat.lt_or_ge m.2 2 with h2|h2
   ·exact .box (mem_L4 (Nat.le_of_lt_succ h1) (Nat.le_of_lt_succ h2))
   ·refine z11 (mdiv_up (s:=(0,2)) (Gd.mpr ⟨Nat.zero_le _,h2⟩)) fun u e=>?_;subst e;exact Rd.step (List.mem_cons_of_mem _ (.head _)) (red_mono a c b d k _ (Gh (Y6 _ _ _) 1 (.add (.add (.num 0) (.var 0)) (.add (.num 1) (.var 1))) (.var 2) [Gb 1 (.add (.add (.num 0) (.var 0)) (.add (.num 2) (.var 1))) (.add (.var 2) (.num 1))] rfl hm)) (red_mono a c b d k _ (Gh (Y6 _ _ _) 1 (.add (.var 0) (.var 1)) (.var 2) [Gb 1 (.add (.add (.num 0) (.var 0)) (.add (.num 2) (.var 1))) (.add (.var 2) (.num 1))] rfl hm))
  ·refine z11 (mdiv_up (s:=(2,0)) (Gd.mpr ⟨h1,Nat.zero_le _⟩)) fun u e=>?_;subst e;exact Rd.step (.head _) (red_mono a c b d k _ (Gh (Y6 _ _ _) 1 (.add (.add (.num 1) (.var 0)) (.add (.num 0) (.var 1))) (.var 2) [Gb 1 (.add (.add (.num 2) (.var 0)) (.add (.num 0) (.var 1))) (.add (.var 2) (.num 1))] rfl hm)) (red_mono a c b d k _ (Gh (Y6 _ _ _) 1 (.add (.var 0) (.var 1)) (.var 2) [Gb 1 (.add (.add (.num 2) (.var 0)) (.add (.num 0) (.var 1))) (.add (.var 2) (.num 1))] rfl hm))
theorem red_all(a c b d:Rat):∀T:Tm,Rd [cf (p1T a c),cf (p2T b d)] (cf T)
 |[]=>⟨fun _=>0,Sp.zero.cast fun n=>by rw[bq_all fun _ _=>rfl];exact(Rat.sub_self).symm⟩
 |(m,q)::r=>((red_mono a c b d _ m (Qs _)).lin q 1 (red_all a c b d r)).cast fun n=>by rw[cf_cons,Rat.one_mul]
noncomputable def grid(a c b d:Rat):List Pt:=[(a,b),(a,d),(c,b),(c,d)]
theorem grid_all{a c b d:Rat}{P:Pt→Prop}(h1:P (a,b))(h2:P (a,d))(h3:P (c,b))(h4:P (c,d)):∀p∈grid a c b d,P p:=
 List.forall_mem_cons.mpr ⟨h1,List.forall_mem_cons.mpr ⟨h2,List.forall_mem_cons.mpr ⟨h3,List.forall_mem_cons.mpr ⟨h4,fun _ h=>nomatch h⟩⟩⟩⟩
theorem pow_one'(x:Rat):x^1=x:=by rw[show(1:Nat)=0+1 from rfl,Rat.pow_succ,Rat.pow_zero,Rat.one_mul]
theorem pow_two'(x:Rat):x^2=x*x:=by rw[show(2:Nat)=1+1 from rfl,Rat.pow_succ,pow_one']
theorem pw_00(p:Pt):pw p (0,0)=1:=by unfold pw;rw[Rat.pow_zero,Rat.pow_zero,Rat.one_mul]
theorem pw_x(p:Pt)(n:Nat):pw p (n,0)=p.1^n:=by unfold pw;rw[Rat.pow_zero,Rat.mul_one]
theorem pw_y(p:Pt)(n:Nat):pw p (0,n)=p.2^n:=by unfold pw;rw[Rat.pow_zero,Rat.one_mul]
theorem ev_cons(m:Qx)(c:Rat)(r:Tm)(p:Pt):ev ((m,c)::r) p=c*pw p m+ev r p:=rfl
theorem ev_bq(e:PF)(p:Pt):ev (bq e) p=e (0,0)+e (1,0)*p.1+e (0,1)*p.2+e (1,1)*(p.1*p.2):=by
 show e (0,0)*pw p (0,0)+(e (1,0)*pw p (1,0)+(e (0,1)*pw p (0,1)+(e (1,1)*(p.1^1*p.2^1)+0)))=_;rw[pw_00,pw_x,pw_y,pow_one',pow_one'];grind
theorem ev_sq{p:Pt}{x a c:Rat}(h:x=a∨x=c):1*(x*x)+(-(a+c)*x+(a*c*1+0))=0:=by rcases h with h|h<;>rw[h]<;>grind
theorem p1_z(a c b d:Rat):Zp (grid a c b d) (cf (p1T a c)):=⟨p1T a c,fun _=>rfl,fun p hp=>by
 unfold p1T;rw[ev_cons,ev_cons,ev_cons,pw_00,pw_x,pw_x,pow_one',pow_two'];exact ev_sq (p:=p) (grid_all (P:=fun p=>p.1=a∨p.1=c) (.inl rfl) (.inl rfl) (.inr rfl) (.inr rfl) p hp)⟩
theorem p2_z(a c b d:Rat):Zp (grid a c b d) (cf (p2T b d)):=⟨p2T b d,fun _=>rfl,fun p hp=>by
 unfold p2T;rw[ev_cons,ev_cons,ev_cons,pw_00,pw_y,pw_y,pow_one',pow_two'];exact ev_sq (p:=p) (grid_all (P:=fun p=>p.2=b∨p.2=d) (.inl rfl) (.inr rfl) (.inl rfl) (.inr rfl) p hp)⟩
noncomputable def Eb(e:PF)(x y:Rat):Prop:=e (0,0)+e (1,0)*x+e (0,1)*y+e (1,1)*(x*y)=0
theorem Eb.g{e:PF}{x y:Rat}(h:Eb e x y):(e (0,0)+e (1,0)*x)+(e (0,1)+e (1,1)*x)*y=0:=by unfold Eb at h;grind
theorem Z4{p q y z:Rat}(h:y≠z)(h1:p+q*y=0)(h2:p+q*z=0):p=0∧q=0:=by
 have e:q=0:=by grind
 exact⟨by rw[e]at h1;grind,e⟩
theorem all_four{e:PF}(h0:e (0,0)=0)(h1:e (1,0)=0)(h2:e (0,1)=0)(h3:e (1,1)=0):∀m∈L4,e m=0:=
 List.forall_mem_cons.mpr ⟨h0,List.forall_mem_cons.mpr ⟨h1,List.forall_mem_cons.mpr ⟨h2,List.forall_mem_cons.mpr ⟨h3,fun _ h=>nomatch h⟩⟩⟩⟩
theorem pt_four{e:PF}{a c b d:Rat}(hac:a≠c)(hbd:b≠d)(h1:Eb e a b)(h2:Eb e a d)(h3:Eb e c b)(h4:Eb e c d):∀m∈L4,e m=0:=
 have A:=Z4 hbd h1.g h2.g;have C:=Z4 hbd h3.g h4.g
 have P:=Z4 hac A.1 C.1;have Q:=Z4 hac A.2 C.2
 all_four P.1 P.2 Q.1 Q.2
theorem pt_line{e:PF}{x y:Rat}(h:Eb e x y)(h2:e (0,1)=0)(h3:e (1,1)=0):e (0,0)+e (1,0)*x=0:=by unfold Eb at h;rw[h2,h3]at h;grind
theorem pt_three{e:PF}{x x' y y':Rat}(hx:x≠x')(hy:y≠y')(h3:e (1,1)=0)(a:Eb e x y)(b:Eb e x y')(c:Eb e x' y):∀m∈L4,e m=0:=
 have A:=Z4 hy a.g b.g;have h2:e (0,1)=0:=by have h:=A.2;rw[h3]at h;grind
 have B:=Z4 hx A.1 (pt_line c h2 h3)
 all_four B.1 B.2 h2 h3
theorem pt_x{e:PF}{x x' y y':Rat}(hx:x≠x')(h2:e (0,1)=0)(h3:e (1,1)=0)(a:Eb e x y)(b:Eb e x' y'):∀m∈L4,e m=0:=
 have A:=Z4 hx (pt_line a h2 h3) (pt_line b h2 h3)
 all_four A.1 A.2 h2 h3
theorem pt_col{e:PF}{x y:Rat}(h:Eb e x y)(h1:e (1,0)=0)(h3:e (1,1)=0):e (0,0)+e (0,1)*y=0:=by unfold Eb at h;rw[h1,h3]at h;grind
theorem pt_y{e:PF}{x x' y y':Rat}(hy:y≠y')(h1:e (1,0)=0)(h3:e (1,1)=0)(a:Eb e x y)(b:Eb e x' y'):∀m∈L4,e m=0:=
 have A:=Z4 hy (pt_col a h1 h3) (pt_col b h1 h3)
 all_four A.1 h1 A.2 h3
theorem pt_one{e:PF}{x y:Rat}(h1:e (1,0)=0)(h2:e (0,1)=0)(h3:e (1,1)=0)(a:Eb e x y):∀m∈L4,e m=0:=
 all_four (by have h:=pt_line a h2 h3;rw[h1]at h;grind) h1 h2 h3
theorem gen_base{a c b d:Rat}(hac:a≠c)(hbd:b≠d):Gen [cf (p1T a c),cf (p2T b d)] (grid a c b d):=fun T hT=>by
 refine z11 (red_all a c b d T) fun e h=>?_;have hz:=h.z (pts:=grid a c b d) (fun g hg=>(Q5 hg).elim (fun e=>e▸p1_z a c b d) fun hg=>Q2 hg▸p2_z a c b d);have hev:=hz.ev (T:=T++tmul (bq e) (0,0) (-1)) (fun n=>by rw[cf_app,cf_tmul,sh_zero];grind);have hb:∀p∈grid a c b d,Eb e p.1 p.2:=fun p hp=>by
  have h1:=hev p hp;rw[ev_app,ev_tmul,hT p hp,pw_00,ev_bq]at h1;unfold Eb;grind
 have h0:=pt_four hac hbd (hb _ (.head _)) (hb _ (.tail _ (.head _))) (hb _ (.tail _ (.tail _ (.head _)))) (hb _ (.tail _ (.tail _ (.tail _ (.head _)))));exact h.cast fun n=>by rw[bq_all h0];grind
theorem li_two{y z:Rat}(h:y≠z)(v w:Rat):∃p q:Rat,p+q*y=v∧p+q*z=w:=
 have e:(y-z)*(y-z)⁻¹ =1:=Rat.mul_inv_cancel _ fun e=>h (by grind)
 ⟨v-(v-w)*(y-z)⁻¹ *y,(v-w)*(y-z)⁻¹,by grind,by grind⟩
noncomputable def Q4(e0 e1 e2 e3:Rat)(n:Qx):Rat:=if n=(0,0)then e0 else if n=(1,0)then e1 else if n=(0,1)then e2 else e3
theorem interp{a c b d:Rat}(hac:a≠c)(hbd:b≠d)(v:Pt→Rat):∃e:PF,∀p∈grid a c b d,ev (bq e) p=v p:=
 z22 (li_two hbd (v (a,b)) (v (a,d))) fun p q h1 h2=>z22 (li_two hbd (v (c,b)) (v (c,d))) fun p' q' h3 h4=>z22 (li_two hac p p') fun e0 e1 k1 k2=>z22 (li_two hac q q') fun e2 e3 k3 k4=>
  have K:∀{x y p q w:Rat},e0+e1*x=p→e2+e3*x=q→p+q*y=w→ev (bq (Q4 e0 e1 e2 e3)) (x,y)=w:=fun{x y p q w} a b c=>by
   rw[ev_bq];show e0+e1*x+e2*y+e3*(x*y)=w;grind
  ⟨Q4 e0 e1 e2 e3,grid_all (K k1 k3 h1) (K k1 k3 h2) (K k2 k4 h3) (K k2 k4 h4)⟩
noncomputable def tprod:Tm→Tm→Tm
 |[],_=>[]
 |(m,c)::r,Q=>tmul Q m c++tprod r Q
theorem ev_tprod(E Q:Tm)(p:Pt):ev (tprod E Q) p=ev E p*ev Q p:=by
 induction E with
 |nil=>simp only[tprod,ev];grind
 |cons x r ih=>obtain⟨m,c⟩:=x;simp only[tprod,ev_app,ev_tmul,ih,ev];grind
theorem sp_tprod{F:List PF}(E Q:Tm)(h:cf Q∈F):Sp F (cf (tprod E Q)):=by
 induction E with
 |nil=>exact Sp.zero
 |cons x r ih=>
  obtain⟨m,c⟩:=x;exact(Sp.add c m (cf Q) h ih).cast fun n=>by simp only[tprod];rw[cf_app,cf_tmul];grind
theorem gen_step{a c b d:Rat}(hac:a≠c)(hbd:b≠d){F:List PF}{old new:List Pt}(hold:∀p∈old,p∈grid a c b d)(hg:Gen F old){Q:Tm}(hnew:∀p∈old,ev Q p=0→p∈new):Gen (F++[cf Q]) new:=fun T hT=>by
 refine z11 (interp hac hbd (fun p=>if ev Q p=0 then 0 else ev T p/ev Q p)) fun e he=>?_;have h1:=hg (T++tmul (tprod (bq e) Q) (0,0) (-1)) (fun p hp=>by
  rw[ev_app,ev_tmul,ev_tprod,he p (hold p hp),pw_00];by_cases hq:ev Q p=0
  ·rw[if_pos hq,hT p (hnew p hp hq)];grind
  ·rw[if_neg hq];grind)
 have h2:Sp (F++[cf Q]) (cf (tprod (bq e) Q)):=sp_tprod _ _ (List.mem_append_right _ (.head _));refine((h1.mono fun g hg=>List.mem_append_left _ hg).plus h2).cast fun n=>?_;rw[cf_app,cf_tmul,sh_zero];grind
theorem Gen.trans{F F':List PF}{pts:List Pt}(h:Gen F pts)(hs:∀g∈F,Sp F' g):Gen F' pts:=fun T hT=>(h T hT).trans hs
noncomputable def mkT(l:Tm):Tm:=l.filter fun x=>decide (x.2≠0)
noncomputable def gP1(a c:Rat):PG:=(mkT (p1T a c),(2,0))
noncomputable def gP2(b d:Rat):PG:=(mkT (p2T b d),(0,2))
noncomputable def gXY(u v:Rat):PG:=(mkT [((1,1),1),((1,0),-v),((0,1),-u),((0,0),u*v)],(1,1))
noncomputable def gX(u:Rat):PG:=(mkT [((1,0),1),((0,0),-u)],(1,0))
noncomputable def gY(v:Rat):PG:=(mkT [((0,1),1),((0,0),-v)],(0,1))
noncomputable def gL(u v l:Rat):PG:=(mkT [((1,0),1),((0,1),-l),((0,0),-(u-l*v))],(1,0))
noncomputable def gOne:PG:=([((0,0),1)],(0,0))
noncomputable def two(o:Nat)(x y:PG):List PG:=if o=0 then[y,x]else[x,y]
noncomputable def HF(o:Nat)(a c b d:Rat):Bool→Bool→Bool→Bool→List PG
 |true,true,true,true=>[gP2 b d,gP1 a c]
 |false,true,true,true=>[gP2 b d,gXY c d,gP1 a c]
 |true,false,true,true=>[gP2 b d,gXY c b,gP1 a c]
 |true,true,false,true=>[gP2 b d,gXY a d,gP1 a c]
 |true,true,true,false=>[gP2 b d,gXY a b,gP1 a c]
 |true,true,false,false=>two o (gX a) (gP2 b d)
 |false,false,true,true=>two o (gX c) (gP2 b d)
 |true,false,true,false=>[gY b,gP1 a c]
 |false,true,false,true=>[gY d,gP1 a c]
 |true,false,false,true=>two o (gL a b ((c-a)/(d-b))) (gP2 b d)
 |false,true,true,false=>two o (gL a d ((c-a)/(b-d))) (gP2 b d)
 |true,false,false,false=>[gY b,gX a]
 |false,true,false,false=>[gY d,gX a]
 |false,false,true,false=>[gY b,gX c]
 |false,false,false,true=>[gY d,gX c]
 |false,false,false,false=>[gOne]
noncomputable def sel(a c b d:Rat)(s1 s2 s3 s4:Bool):List Pt:=(if s1 then[(a,b)]else[])++((if s2 then[(a,d)]else[])++((if s3 then[(c,b)]else[])++(if s4 then[(c,d)]else[])))
noncomputable def stdB(H:List PG)(n:Qx):Bool:=H.all fun h=>!Gf h.2 n
theorem notB{b:Bool}:(!b)=true↔b=false:=by cases b<;>decide
theorem stdB_iff{H:List PG}{n:Qx}:stdB H n=true↔Std H n:=by
 exact⟨fun h x hx=>notB.mp (Ql h x hx),fun h=>List.all_eq_true.mpr fun x hx=>notB.mpr (h x hx)⟩
noncomputable def hbB(D:Int)(T:Tm):Bool:=T.all fun x=>decide ((x.2*(D:Rat)).den=1∧(x.2*(D:Rat)).num.natAbs≤16)
noncomputable def eltB(o:Nat)(h:PG):Bool:=
 decide ((keys h.1).Nodup)&&(h.1.all (fun x=>decide (x.1.1<6∧x.1.2<6∧x.2≠0))&&(decide (Jk o h.1=some h.2)&&(decide (co h.1 h.2=1)&&(decide (h.2.1+h.2.2≤2)&&((keys h.1).all (fun n=>decide (n.1+n.2≤h.2.1+h.2.2))&&(hbB 1 h.1||hbB 2 h.1))))))
noncomputable def formB(o:Nat)(H:List PG)(pts:List Pt):Bool:=
 H.all (eltB o)&&(H.all (fun h=>pts.all fun p=>decide (ev h.1 p=0))&&(decide (H.Pairwise fun g h=>mlt o g.2 h.2=true)&&(H.all (fun h=>(keys h.1).all fun n=>decide (n=h.2)||stdB H n)&&(H.all (fun g=>H.all fun h=>!Gf g.2 h.2||decide (g.2=h.2))&&(decide (H.length≤3)&&(H.any (fun h=>Gf h.2 (2,0))&&H.any (fun h=>Gf h.2 (0,2))))))))
theorem and_l{a b:Bool}(h:(a&&b)=true):a=true:=(Bool.and_eq_true_iff.mp h).1
theorem and_r{a b:Bool}(h:(a&&b)=true):b=true:=(Bool.and_eq_true_iff.mp h).2
theorem Zi{α:Type}{l:List α}{p:α→Bool}(h:l.all p=true){x:α}(hx:x∈l):p x=true:=Ql h x hx
theorem hbB_ok{D:Int}{T:Tm}(hD:D=1∨D=2)(h:hbB D T=true):Hb 4 (co T):=by
 refine⟨D,by rcases hD with rfl|rfl<;>decide,by rcases hD with rfl|rfl<;>decide,fun m=>?_⟩;by_cases hm:m∈keys T
 ·have h:=of_decide_eq_true (Zi h (Us (co_mem hm)));exact⟨(co T m*(D:Rat)).num,Rat.ext (Rat.num_intCast _).symm (h.1.trans (Rat.den_intCast _).symm),h.2⟩
 ·refine⟨0,?_,Nat.zero_le _⟩;rw[show co T m=0 by unfold co;rw[Ja.mpr hm];rfl,Rat.zero_mul];rfl
theorem eltB_ok{o:Nat}{h:PG}(hb:eltB o h=true):Elt o 4 h:=by
 have h1:=of_decide_eq_true (and_l hb);have hb:=and_r hb;have h2:∀x∈h.1,x.1.1<6∧x.1.2<6∧x.2≠0:=fun x hx=>of_decide_eq_true (Zi (and_l hb) hx);have hb:=and_r hb;have hb1:=and_r hb;have hb2:=and_r hb1;have hb3:=and_r hb2;have ok:Ok h.1:=⟨h1,fun x hx=>⟨(h2 x hx).1,(h2 x hx).2.1⟩,fun x hx=>(h2 x hx).2.2⟩
 have hHb:Hb 4 (co h.1):=(Bool.or_eq_true_iff.mp (and_r hb3)).elim (hbB_ok (.inl rfl)) (hbB_ok (.inr rfl));exact⟨⟨ok,hHb.Sz ok (by decide),of_decide_eq_true (and_l hb),of_decide_eq_true (and_l hb1)⟩,⟨of_decide_eq_true (and_l hb2),fun n hn=>of_decide_eq_true (Zi (and_l hb3) hn)⟩,hHb⟩
theorem form_of{o:Nat}{H:List PG}{pts:List Pt}{F0:List PF}(hb:formB o H pts=true)(hg:Gen F0 pts)
 (ind:∀f:PF,(∀n,f n≠0→Std H n)→(∀p∈pts,Eb f p.1 p.2)→∀m∈L4,f m=0):Form o (Zp pts) F0 H:=by
 have elt:∀h∈H,Elt o 4 h:=fun h hh=>eltB_ok (Zi (and_l hb) hh);have hb:=and_r hb;have h2:∀h∈H,∀p∈pts,ev h.1 p=0:=fun h hh p hp=>of_decide_eq_true (Zi (Zi (and_l hb) hh) hp);have hb:=and_r hb;have hb1:=and_r hb;have hb2:=and_r hb1;have hb3:=and_r hb2;have hb4:=and_r hb3;have hcf:∀h∈H,∀n,co h.1 n=cf h.1 n:=fun h hh n=>(cf_co (elt h hh).1.1.nodup n).symm;have hbox:∀n,Std H n→n∈L4:=fun n hn=>box_of (List.any_eq_true.mp (and_l hb4)) (List.any_eq_true.mp (and_r hb4)) hn;refine{elt:=elt,z:=fun h hh=>⟨h.1,hcf h hh,h2 h hh⟩,sorted:=of_decide_eq_true (and_l hb),red:=fun h hh n hn hne=>?_,anti:=fun g hg h hh hd=>?_,ind:=fun f hz hs=>?_,gen:=fun gs hgs h hh=>?_,len:=of_decide_eq_true (and_l hb3)}
 ·exact(Bool.or_eq_true_iff.mp (Zi (Zi (and_l hb1) hh) hn)).elim (fun e=>absurd (of_decide_eq_true e) hne) stdB_iff.mp
 ·exact(Bool.or_eq_true_iff.mp (Zi (Zi (and_l hb2) hg) hh)).elim (fun e=>fft (notB.mp e) hd) of_decide_eq_true
 ·have hf:∀n,f n=cf (bq f) n:=fun n=>(Decidable.em (n∈L4)).elim (fun hn=>by rw[cf_bq,if_pos hn]) fun hn=>by rw[cf_bq,if_neg hn];exact Decidable.byContradiction fun h=>hn (hbox n (hs n h))
  exact fun n=>(hf n).trans (bq_all (ind f hs fun p hp=>(ev_bq f p).symm.trans (hz.ev hf p hp)) n)
 ·exact((hg h.1 fun p hp=>h2 h hh p hp).rp hgs).cast fun n=>(hcf h hh n).symm
noncomputable def Uy:List (Int×Int×Int×Int):=[-1,0,1].flatMap fun a=>[1,2].flatMap fun i=>[-1,0,1].flatMap fun b=>[1,2].map fun j=>(a,a+i,b,b+j)
noncomputable def masks:List (Bool×Bool×Bool×Bool):=[true,false].flatMap fun s1=>[true,false].flatMap fun s2=>[true,false].flatMap fun s3=>[true,false].map fun s4=>(s1,s2,s3,s4)
noncomputable def allB(o:Nat):Bool:=Uy.all fun g=>masks.all fun s=>formB o (HF o g.1 g.2.1 g.2.2.1 g.2.2.2 s.1 s.2.1 s.2.2.1 s.2.2.2) (sel g.1 g.2.1 g.2.2.1 g.2.2.2 s.1 s.2.1 s.2.2.1 s.2.2.2)
theorem allB_0:allB 0=true:=by decide+kernel
theorem allB_1:allB 1=true:=by decide+kernel
theorem allB_2:allB 2=true:=by decide+kernel
theorem Gk{H:List PG}{f:PF}(hs:∀n,f n≠0→Std H n){n:Qx}(hd:stdB H n=false):f n=0:=Decidable.byContradiction fun h=>fft hd (stdB_iff.mpr (hs n h))
theorem Z1{o:Nat}{x y:PG}{n:Qx}(h:stdB [x,y] n=false)(h':stdB [y,x] n=false):stdB (two o x y) n=false:=by
 unfold two;split
 ·exact h'
 ·exact h
noncomputable def FI(o:Nat)(a c b d:Rat)(s1 s2 s3 s4:Bool):Prop:=∀f:PF,(∀n,f n≠0→Std (HF o a c b d s1 s2 s3 s4) n)→(∀p∈sel a c b d s1 s2 s3 s4,Eb f p.1 p.2)→∀m∈L4,f m=0
theorem form_ind{o:Nat}{a c b d:Rat}(hac:a≠c)(hbd:b≠d)(s1 s2 s3 s4:Bool):FI o a c b d s1 s2 s3 s4:=by
 cases s1<;>cases s2<;>cases s3<;>cases s4
 ·exact fun f hs hp=>all_four (Gk hs rfl) (Gk hs rfl) (Gk hs rfl) (Gk hs rfl)
 ·exact fun f hs hp=>pt_one (Gk hs rfl) (Gk hs rfl) (Gk hs rfl) (hp _ (.head _))
 ·exact fun f hs hp=>pt_one (Gk hs rfl) (Gk hs rfl) (Gk hs rfl) (hp _ (.head _))
 ·exact fun f hs hp=>pt_y hbd (Gk hs (Z1 rfl rfl)) (Gk hs (Z1 rfl rfl)) (hp _ (.head _)) (hp _ (.tail _ (.head _)))
 ·exact fun f hs hp=>pt_one (Gk hs rfl) (Gk hs rfl) (Gk hs rfl) (hp _ (.head _))
 ·exact fun f hs hp=>pt_x hac (Gk hs rfl) (Gk hs rfl) (hp _ (.head _)) (hp _ (.tail _ (.head _)))
 ·exact fun f hs hp=>pt_y hbd.symm (Gk hs (Z1 rfl rfl)) (Gk hs (Z1 rfl rfl)) (hp _ (.head _)) (hp _ (.tail _ (.head _)))
 ·exact fun f hs hp=>pt_three hac.symm hbd.symm (Gk hs rfl) (hp _ (.tail _ (.tail _ (.head _)))) (hp _ (.tail _ (.head _))) (hp _ (.head _))
 ·exact fun f hs hp=>pt_one (Gk hs rfl) (Gk hs rfl) (Gk hs rfl) (hp _ (.head _))
 ·exact fun f hs hp=>pt_y hbd (Gk hs (Z1 rfl rfl)) (Gk hs (Z1 rfl rfl)) (hp _ (.head _)) (hp _ (.tail _ (.head _)))
 ·exact fun f hs hp=>pt_x hac (Gk hs rfl) (Gk hs rfl) (hp _ (.head _)) (hp _ (.tail _ (.head _)))
 ·exact fun f hs hp=>pt_three hac.symm hbd (Gk hs rfl) (hp _ (.tail _ (.head _))) (hp _ (.tail _ (.tail _ (.head _)))) (hp _ (.head _))
 ·exact fun f hs hp=>pt_y hbd (Gk hs (Z1 rfl rfl)) (Gk hs (Z1 rfl rfl)) (hp _ (.head _)) (hp _ (.tail _ (.head _)))
 ·exact fun f hs hp=>pt_three hac hbd.symm (Gk hs rfl) (hp _ (.tail _ (.head _))) (hp _ (.head _)) (hp _ (.tail _ (.tail _ (.head _))))
 ·exact fun f hs hp=>pt_three hac hbd (Gk hs rfl) (hp _ (.head _)) (hp _ (.tail _ (.head _))) (hp _ (.tail _ (.tail _ (.head _))))
 ·exact fun f hs hp=>pt_four hac hbd (hp _ (.head _)) (hp _ (.tail _ (.head _))) (hp _ (.tail _ (.tail _ (.head _)))) (hp _ (.tail _ (.tail _ (.tail _ (.head _)))))
theorem form_all{o:Nat}(ho:o<3){a c b d:Int}(hg:(a,c,b,d)∈Uy)(s1 s2 s3 s4:Bool){F0:List PF}(h:Gen F0 (sel a c b d s1 s2 s3 s4)):Form o (Zp (sel a c b d s1 s2 s3 s4)) F0 (HF o a c b d s1 s2 s3 s4):=by
 have hne:∀x∈Uy,x.1≠x.2.1∧x.2.2.1≠x.2.2.2:=by decide
 have h1:=hne _ hg;have hac:(a:Rat)≠(c:Rat):=fun e=>h1.1 (Rat.intCast_inj.mp e);have hbd:(b:Rat)≠(d:Rat):=fun e=>h1.2 (Rat.intCast_inj.mp e);have hm:∀x1 x2 x3 x4:Bool,(x1,x2,x3,x4)∈masks:=by decide
 have hb:allB o=true:=by
  match o,ho with
  |0,_=>exact allB_0
  |1,_=>exact allB_1
  |2,_=>exact allB_2
 have h2:=Ql (Ql hb _ hg) _ (hm s1 s2 s3 s4);exact form_of h2 h (form_ind hac hbd s1 s2 s3 s4)
structure Zj(o:Nat)(fs:List Be)(ns:Nat)(σ:Sto):Prop where
 lst:σ[ns]?=some (.list (fs.map fun b=>.loc b.p))
 at_:∀b∈fs,σ[b.p]?=some (.dict (Qy b.G))
 elt:∀b∈fs,Elt o 4 (b.G,b.m)
theorem Zj.app{o:Nat}{fs:List Be}{ns:Nat}{σ:Sto}(h:Zj o fs ns σ)(τ:Sto):Zj o fs ns (σ++τ):=⟨Qw h.lst,fun b hb=>Qw (h.at_ b hb),h.elt⟩
theorem inv_one:(1:Rat)⁻¹ =1:=by grind
theorem Zj.inAt{o:Nat}{fs:List Be}{ns:Nat}{σ:Sto}(h:Zj o fs ns σ)(hl:fs.length≤50):InAt o fs ns σ:=
 ⟨h.lst,h.at_,fun b hb=>(h.elt b hb).1.1,fun b hb=>(h.elt b hb).1.2.1,fun b hb=>(h.elt b hb).1.2.2.1,fun b hb=>by rw[show co b.G b.m=1 from(h.elt b hb).1.2.2.2,inv_one];exact sz_one,hl⟩
theorem monic_co{o:Nat}{b:Be}(e:Elt o 4 (b.G,b.m))(n:Qx):co (Y2 b).1 n=co b.G n:=by
 show co (Gv b.G (co b.G b.m)⁻¹) n=_;rw[Uq,show co b.G b.m=1 from e.1.2.2.2,inv_one];grind
theorem monic_elt{o:Nat}{b:Be}(e:Elt o 4 (b.G,b.m)):Elt o 4 (Y2 b):=by
 have hc:=monic_co e;obtain⟨⟨ok,sz,ld,one⟩,dc,hb⟩:=e;have hne:(co b.G b.m)⁻¹ ≠0:=by rw[show co b.G b.m=1 from one,inv_one];decide
 have okm:Ok (Y2 b).1:=ok.scale hne;have hHb:Hb 4 (co (Y2 b).1):=by
  have:co (Y2 b).1=co b.G:=funext hc;rw[this];exact hb
 have hp:PG1 o (Y2 b):=⟨okm,hHb.Sz okm (by exact Jl (.leaf 0) 1 (.num 4) (.num 200000) [] rfl),tlead_iff.mpr (by rw[show keys (Y2 b).1=keys b.G from keys_tscale hne];exact Go ld),by rw[hc];exact one⟩
 refine⟨hp,⟨dc.1,fun n hn=>dc.2 n ?_⟩,hHb⟩;rwa[show keys (Y2 b).1=keys b.G from keys_tscale hne]at hn
theorem initW_len{n:Nat}(h:n≤4):2*(initW n).length=n*(n-1):=by
 match n,h with
 |0,_=>decide
 |1,_=>decide
 |2,_=>decide
 |3,_=>decide
 |4,_=>decide
theorem initW_mem{n i j:Nat}(hij:i<j)(hj:j<n):(i,j)∈initW n:=by
 unfold initW;rw[List.mem_flatMap];exact⟨j,List.mem_range.mpr hj,List.mem_map.mpr ⟨i,List.mem_range.mpr hij,rfl⟩⟩
theorem pot_le_len(L:List Qx)(gs:List PG):pot L gs≤L.length:=List.length_filter_le _ _
section
variable{N k:Nat}{σ:Sto}{o:Nat}{ns:Nat}
theorem basis_spec(hN:Big N)(ho:o<3){fs:List Be}(T:Zj o fs ns σ)(hl:fs.length≤4){a c b d:Int}(hg:(a,c,b,d)∈Uy)(s1 s2 s3 s4:Bool)
 (hz:∀f∈fs,Zp (sel a c b d s1 s2 s3 s4) (co f.G)) (hx:∃f∈fs,Gf f.m (2,0)=true) (hy:∃f∈fs,Gf f.m (0,2)=true) (hgen:Gen (fs.map fun f=>co f.G) (sel a c b d s1 s2 s3 s4)):
 ∃τ nf fb,G0 prog N (k+11) 35 [.loc ns,.str o,.int 40] σ=some (.loc nf,σ++τ)∧Gj o fb nf (σ++τ)∧Zk (fb.map gm) (HF o a c b d s1 s2 s3 s4)∧σ.length≤nf:=by
 have F:=form_all ho hg s1 s2 s3 s4 hgen;have I:Inv o (Zp (sel a c b d s1 s2 s3 s4)) (fs.map fun f=>co f.G) (fs.map Y2) (initW fs.length) 0 28:=
  {elt:=fun g hg'=>by
    obtain⟨f,hf,rfl⟩:=Qg hg';exact monic_elt (T.elt f hf)
   z:=fun g hg'=>by
    obtain⟨f,hf,rfl⟩:=Qg hg';have:co (Y2 f).1=co f.G:=funext (monic_co (T.elt f hf));rw[this];exact hz f hf
   gen:=fun f hf=>by
    obtain⟨g,hg',rfl⟩:=Qg hf;exact(Rp.one 1 (0,0) (Y2 g) (Qj hg') trivial).cast fun n=>by rw[sh_zero,monic_co (T.elt g hg')];grind
   x2:=let⟨f,hf,h⟩:=hx;⟨Y2 f,Qj hf,h⟩
   y2:=let⟨f,hf,h⟩:=hy;⟨Y2 f,Qj hf,h⟩
   pairs:=fun i j g1 g2 hij _ hj=>by
    left;have:=(Q6 hj).1;simp only[Qi]at this;exact initW_mem hij this
   wr:=fun p hp=>by
    unfold initW at hp;refine z12 (List.mem_flatMap.mp hp) fun j hj hp=>?_;obtain⟨i,hi,rfl⟩:=Qg hp;rw[List.mem_range]at hi hj;exact⟨hi,by simpa using hj⟩
   len:=by have:=pot_le_len L4 (fs.map Y2);simp only[Qi];have h4:L4.length=4:=rfl;exact Gh (Y6 _ _ _) 1 (.add (.var 0) (.var 1)) (.num 8) [Gb 1 (.var 0) (.num 4),Gb 1 (.var 1) (.var 2),Gp 1 (.var 2) (.num 4)] rfl hl this h4
   tp:=by have:=pot_le_len L3 (fs.map Y2);have h3:L3.length=3:=rfl;exact Gh (G6 _ _) 1 (.add (.num 0) (.var 0)) (.num 3) [Gb 1 (.var 0) (.var 1),Gp 1 (.var 1) (.num 3)] rfl this h3
   hn:=Qs _
   cnt:=by have:=initW_len hl;simp only[Qi];exact Gh (G6 _ _) 1 (.add (.mulL 2 (.var 0)) (.num 56)) (.add (.mulL 2 (.num 28)) (.var 1)) [Gp 1 (.mulL 2 (.var 0)) (.var 1)] rfl this}
 have G:=gok (Zp.zc _) (Zp.zero _) (P:=FormOk o fun f=>Zk f (HF o a c b d s1 s2 s3 s4)) (fun gs E=>form_ok (Zp.zc _) (Zp.zero _) E F) 28 _ _ 0 I;exact c_basis (k:=k) hN ho (T.inAt (by exact Gh (.leaf _) 1 (.var 0) (.num 50) [Gb 1 (.var 0) (.num 4)] rfl hl)) (fun f hf=>(monic_elt (T.elt f hf)).1) (by exact Gh (.leaf 0) 1 (.num 28) (.num 40) [] rfl) (by exact Gh (.leaf _) 1 (.var 0) (.num 20) [Gb 1 (.var 0) (.num 4)] rfl hl) G
structure At(o:Nat)(a c b d:Int)(s1 s2 s3 s4:Bool)(fb:List Be)(nb:Nat)(σ:Sto):Prop where
 bas:Gj o fb nb σ
 same:Zk (fb.map gm) (HF o a c b d s1 s2 s3 s4)
theorem same_elts{gs H:List PG}(h:Zk gs H):∀g∈gs,∃x∈H,(∀n,co g.1 n=co x.1 n)∧g.2=x.2:=fun g hg=>by
 refine z11 (Qn hg) fun i hi=>?_;have hl:=(Q6 hi).1;have hl2:i<H.length:=by rw[←h.1];exact hl
 have hH:H[i]?=some H[i]:=Qe hl2;exact⟨_,Qf hH,h.2 i g _ hi hH⟩
theorem same_elts'{gs H:List PG}(h:Zk gs H):∀x∈H,∃g∈gs,(∀n,co g.1 n=co x.1 n)∧g.2=x.2:=fun x hx=>by
 refine z11 (Qn hx) fun i hi=>?_;have hl:=(Q6 hi).1;have hl2:i<gs.length:=by rw[h.1];exact hl
 have hH:gs[i]?=some gs[i]:=Qe hl2;exact⟨_,Qf hH,h.2 i _ x hH hi⟩
theorem member_spec(hN:Big N)(ho:o<3){a c b d:Int}{s1 s2 s3 s4:Bool}{F0:List PF}(F:Form o (Zp (sel a c b d s1 s2 s3 s4)) F0 (HF o a c b d s1 s2 s3 s4)){fb:List Be}{nb nf:Nat}{f:PG}(A:At o a c b d s1 s2 s3 s4 fb nb σ)
 (e:Elt o 4 f) (hf:σ[nf]?=some (.dict (Qy f.1))):∃τ r,G0 prog N (k+9) 36 [.loc nf,.loc nb,.str o] σ=some (.bool r,σ++τ)∧(r=true↔Zp (sel a c b d s1 s2 s3 s4) (co f.1))∧(r=true→Rp (fb.map gm) (fun _=>True) (co f.1)):=by
 have hpg:∀g∈fb.map gm,PG1 o g:=fun g hg=>by
  obtain⟨x,hx,rfl⟩:=Qg hg;exact⟨A.bas.ok x hx,A.bas.szG x hx,A.bas.ld x hx,A.bas.one x hx⟩
 have helt:∀g∈fb.map gm,Elt o 4 g:=fun g hg=>by
  refine z13 (same_elts A.same g hg) fun x hx hc hl=>?_;exact(F.elt x hx).of_same (hpg g hg) hc hl
 have hzf:∀g∈fb.map gm,Zp (sel a c b d s1 s2 s3 s4) (co g.1):=fun g hg=>by
  refine z13 (same_elts A.same g hg) fun x hx hc hl=>?_;have:co g.1=co x.1:=funext hc;rw[this];exact F.z x hx
 refine cps fun qG qK=>?_;obtain⟨L,nd,r,x1,x2,x3,okr,x5,x6,x7,x8⟩:=elt_div helt e (by exact Gh (.leaf 0) 1 (.num 4) (.num 100000) [] rfl);have run:Jz o fb f.1 [] nd r:=x3.change (by rw[mkB_gm]);refine z22 (c_rest (N:=N) (k:=k) hN ho A.bas hf e.1.1 run (by exact Gh (.leaf _) 1 (.var 0) (.num 800) [Gb 1 (.var 0) (.num 10)] rfl x1)) fun τ nr e1 e2=>?_;refine qK ?_;have hc:=G0 prog N (k+8);have hZ:=Zp.zc (sel a c b d s1 s2 s3 s4);have h7:=hZ.rp hzf (Zp.zero _) x7;have key:r=[]↔Zp (sel a c b d s1 s2 s3 s4) (co f.1):=by
  constructor
  ·rintro rfl;have e0:(fun n=>co f.1 n-co [] n)=co f.1:=by funext n;rw[U5];grind
   rwa[e0]at h7
  ·intro hz;have hzr:Zp (sel a c b d s1 s2 s3 s4) (co r):=by
    have:=hZ.add _ _ hz (hZ.smul (-1) _ h7);have e0:(fun n=>co f.1 n+ -1*(co f.1 n-co r n))=co r:=by funext n;grind
    rwa[e0]at this
   have h0:=F.ind (co r) hzr (fun n hn=>by
    intro h hh;refine z13 (same_elts' A.same h hh) fun g hg _ hl=>?_;rw[←hl];exact(x5 n ((Gi okr).mpr hn)).2 g hg)
   cases r with
   |nil=>rfl
   |cons x l=>exact absurd (h0 x.1) ((Gi okr).mp (by simp[keys]))
 refine⟨τ,decide (r=[]),?_,by rw[Q9];exact key,fun h=>?_⟩
 ·rw[c_fn (fn:=f_is_member) rfl];have hl:Jd .len [.loc nr] (σ++τ)=some (.int (r.length:Int),σ++τ):=U7 e2 (by have:=okr.len;exact Jl (.leaf _) 1 (.var 0) (.num 1000) [Gb 1 (.var 0) (.num 36)] rfl this);simp only[f_is_member,e_int,e_var,e_cmp,e_call,e_prim,s_nil,s_cons,t_ret,b_nil,b_cons,nx_r,out_r,Q0,upds,upd,reduceIte,Nat.reduceEqDiff,e1,hl,eqi_ok];congr 3;cases r with
  |nil=>rfl
  |cons x l=>
   simp only[Qa];rw[decide_eq_false (by lia)];simp
 ·have:r=[]:=of_decide_eq_true h;subst this;exact x7.cast fun n=>by rw[U5];grind
end
section
variable{N k:Nat}{σ:Sto}{Φ:Calls}{n na nb nl nw nk nq ns nf:Nat}{T A B F:Tm}{m p a b:Qx}{o:Nat}{bs:List Be}
theorem anyV_map{α:Type}(f:α→Bool):∀l:List α,anyV (l.map fun x=>V.bool (f x))=some (l.any f)
 |[]=>rfl
 |x::l=>(congrArg (Option.map _) (anyV_map f l)).trans (by rw[List.any_cons];rfl)
theorem any_last{α:Type}{f:α→Bool}{l:List α}:Jd .any [.loc σ.length] (σ++[.list (l.map fun x=>V.bool (f x))])=some (.bool (l.any f),σ++[.list (l.map fun x=>V.bool (f x))]):=by
 have e:Gn (.loc σ.length) (σ++[.list (l.map fun x=>V.bool (f x))])=some (l.map fun x=>V.bool (f x)):=by
  unfold Gn;dsimp only;rw[G1]
 show((Gn (.loc σ.length) (σ++[.list (l.map fun x=>V.bool (f x))])).bind anyV).bind _=_;rw[e];exact bnI (anyV_map f l) rfl
theorem bool_comp{L:List Qx}(hL:σ[nl]?=some (.list (L.map mV)))(hl:L.length≤100){fr:AL}{x:Nat}(hx:lk fr x=some (.loc nl)){elt:Ex}{f:Qx→Bool}(he:∀m σ,RE Φ elt (stf (erf fr [1]) 1 (mV m)) σ (.bool (f m)) σ):
 ∃τ,RE Φ (.lcomp elt (.one 1) .plain (.var x) .no) fr σ (.loc (σ++τ).length) (σ++τ++[.list (L.map fun m=>V.bool (f m))]):=
 RE.am (fun m=>V.bool (f m)) (fun ρ H=>bnI (H x _ hx) rfl) hL (Nat.le_trans hl (by decide)) fun m _ acc τ ha=>⟨τ,RT.one rfl (he m _) (Yw ha)⟩
noncomputable def finB(L:List Qx):Bool:=L.any (fun m=>decide (m.1+m.2=0))||(L.any (fun m=>decide (0<m.1)&&decide (m.1+m.2=m.1))&&L.any (fun m=>decide (0<m.2)&&decide (m.1+m.2=m.2)))
theorem subm_0:Jg (mV m) (.int ((0:Nat):Int)) σ=some (.int (m.1:Int)):=rfl
theorem subm_1:Jg (mV m) (.int ((1:Nat):Int)) σ=some (.int (m.2:Int)):=rfl
noncomputable def fE:Ex:=.and (.cons (.cmp .gt (.sub (.var 1) (.var 5)) (.int 0)) (.cons (.cmp .eq (.prim .sum (.cons (.var 1) .nil)) (.sub (.var 1) (.var 5))) .nil))
theorem fE_ok{t g:Nat}{m:Qx}(hg:Jg (mV m) (.int (t:Int)) σ=some (.int (g:Int))):RE Φ fE [(1,mV m),(5,.int (t:Int))] σ (.bool (decide (0<g)&&decide (m.1+m.2=g))) σ:=by
 have e1:decide ((0:Int)<(g:Int))=decide (0<g):=decide_eq_decide.mpr Int.ofNat_lt;have e2:decide (((m.1+m.2:Nat):Int)=(g:Int))=decide (m.1+m.2=g):=decide_eq_decide.mpr Int.natCast_inj;cases h:decide (0<g)with
 |true=>
  rw[Bool.true_and,←e2];exact wE Φ fE [(1,mV m),(5,.int (t:Int))] σ hg (e1.trans h) sum_m hg
 |false=>exact wE Φ fE [(1,mV m),(5,.int (t:Int))] σ hg (e1.trans h)
theorem c_finite(ho:o<3)(H:Gj o bs nb σ):∃τ,G0 prog N (k+3) 37 [.loc nb,.str o,.int 2] σ=some (.bool (finB (bs.map (·.m))),σ++τ):=by
 refine z11 (Z5 (N:=N) (k:=k) ho H (wE _ (.var 35) [(35,.loc nb),(0,.str o),(6,.int 2)] σ) fun _=>rfl) fun τ1 e1=>?_;let L:=bs.map (·.m);let S1:Sto:=σ++τ1++[.list (L.map mV)];let fr1:AL:=[(35,.loc nb),(0,.str o),(6,.int 2),(20,.loc (σ++τ1).length)]
 have hL1:S1[(σ++τ1).length]?=some (.list (L.map mV)):=G1;have hLl:L.length≤100:=(Qi _).symm▸H.len;refine z11 (bool_comp (Φ:=G0 prog N (k+2)) hL1 hLl (fr:=fr1) (x:=20) rfl (elt:=.cmp .eq (.prim .sum (.cons (.var 1) .nil)) (.int 0)) (f:=fun m=>decide (m.1+m.2=0)) fun m σ=>eq0 _▸RE.two Jq Jq (wE _ (.cmp .eq (.prim .sum (.cons (.var 1) .nil)) (.int 0)) [(1,mV m),(1,mV m)] σ sum_m)) fun τ2 e2=>?_;let S2:Sto:=S1++τ2++[.list (L.map fun m=>V.bool (decide (m.1+m.2=0)))];have p2:∃t,S2=σ++t:=Qz (Qz (Qz ⟨τ1,rfl⟩));have hL2:S2[(σ++τ1).length]?=some (.list (L.map mV)):=Qw (Qw hL1);show∃τ,G0 prog N (k+3) 37 [.loc nb,.str o,.int 2] σ=some (.bool (finB L),σ++τ);unfold finB;cases hz:L.any (fun m=>decide (m.1+m.2=0))with
 |true=>
  refine p2.imp fun t ht=>?_;rw[←ht];exact wF N (k+2) 37 [.loc nb,.str o,.int 2] σ e1 e2 any_last hz
 |false=>
  rw[Bool.false_or];refine z11 (bool_comp (Φ:=G0 prog N (k+2)) hL2 hLl (fr:=[(20,.loc (σ++τ1).length),(5,.int ((0:Nat):Int))]) (x:=20) rfl (elt:=fE) (f:=fun m=>decide (0<m.1)&&decide (m.1+m.2=m.1)) fun m σ=>RE.two rfl rfl (fE_ok subm_0)) fun τ3 e3=>?_;let S3:Sto:=S2++τ3++[.list (L.map fun m=>V.bool (decide (0<m.1)&&decide (m.1+m.2=m.1)))];have hs:=wE (G0 prog N (k+2)) (.var 6) fr1 S2;have hr:=rsrc_ok (σ:=S2) (j:=2) (by decide);have p3:∃t,S3=σ++t:=Qz (Qz p2);have w3:=fun(r:Bool) (h:(!L.any (fun m=>decide (0<m.1)&&decide (m.1+m.2=m.1)))=r)=>wB (G0 prog N (k+2)) N (bo 37 [2]) [(20,.loc (σ++τ1).length),(5,.int ((0:Nat):Int))] S2 e3 any_last h;cases h1:L.any (fun m=>decide (0<m.1)&&decide (m.1+m.2=m.1))with
  |false=>
   refine p3.imp fun t ht=>?_;rw[←ht];exact wF N (k+2) 37 [.loc nb,.str o,.int 2] σ e1 e2 any_last hz (RF.for hs hr [20] (RF.ret (x:=.int ((0:Nat):Int)) (items:=[.int ((1:Nat):Int)]) rfl rfl (w3 true (by rw[h1];rfl)) rfl rfl))
  |true=>
   refine z11 (bool_comp (Φ:=G0 prog N (k+2)) (Qw (Qw hL2):S3[(σ++τ1).length]?=_) hLl (fr:=[(20,.loc (σ++τ1).length),(5,.int ((1:Nat):Int))]) (x:=20) rfl (elt:=fE) (f:=fun m=>decide (0<m.2)&&decide (m.1+m.2=m.2)) fun m σ=>RE.two rfl rfl (fE_ok subm_1)) fun τ4 e4=>?_;have w4:=fun(r:Bool) (h:(!L.any (fun m=>decide (0<m.2)&&decide (m.1+m.2=m.2)))=r)=>wB (G0 prog N (k+2)) N (bo 37 [2]) [(20,.loc (σ++τ1).length),(5,.int ((1:Nat):Int))] S3 e4 any_last h;have w5:=w3 false (by rw[h1];rfl);refine(Qz (τ':=[.list (L.map fun m=>V.bool (decide (0<m.2)&&decide (m.1+m.2=m.2)))]) (Qz (τ':=τ4) p3)).imp fun t ht=>?_;rw[Bool.true_and,←ht];cases h2:L.any (fun m=>decide (0<m.2)&&decide (m.1+m.2=m.2))with
   |false=>exact wF N (k+2) 37 [.loc nb,.str o,.int 2] σ e1 e2 any_last hz (RF.for hs hr [20] (RF.cons (x:=.int ((0:Nat):Int)) (items:=[.int ((1:Nat):Int)]) rfl rfl w5 trivial [20] (RF.ret rfl rfl (w4 true (by rw[h2];rfl)) rfl rfl)))
   |true=>exact wF N (k+2) 37 [.loc nb,.str o,.int 2] σ e1 e2 any_last hz (RF.for hs hr [20] (RF.cons (x:=.int ((0:Nat):Int)) (items:=[.int ((1:Nat):Int)]) rfl rfl w5 trivial [20] (RF.cons rfl rfl (w4 false (by rw[h2];rfl)) trivial [20] (RF.nil rfl rfl))))
end
noncomputable def spRun(L:List Qx):Nat→List Qx→List Qx→List Qx→Option (List Qx)
 |0,_,_,_=>none
 |n+1,F,W,K=>match W.getLast? with
  |none=>some F
  |some p=>if(decide (p∈K)||(fdv 0 L p).isSome)=true then spRun L n F W.dropLast K else spRun L n (F++[p]) (W.dropLast++[(p.1+1,p.2),(p.1,p.2+1)]) (K++[p])
noncomputable def krows(K:List Qx):List (List Int×V):=K.map fun p=>(mK p,V.bool true)
noncomputable def spF(nF nW nK nl:Nat):AL:=[(7,.loc nF),(33,.loc nW),(40,.loc nK),(20,.loc nl),(6,.int ((2:Nat):Int))]
section
variable{N k:Nat}{σ:Sto}{Φ:Calls}{n na nb nl nw nk nq ns nf:Nat}{T A B F:Tm}{m p a b:Qx}{o:Nat}{bs:List Be}
theorem dget_krows(K:List Qx)(p:Qx):(Ue (krows K) (mK p)).isSome=decide (p∈K):=by
 induction K with
 |nil=>exact(decide_eq_false List.not_mem_nil).symm
 |cons q K ih=>
  show(if mK q=mK p then some (V.bool true)else Ue (krows K) (mK p)).isSome=_;by_cases h:q=p
  ·rw[if_pos (h▸rfl),decide_eq_true (h▸List.mem_cons_self)];rfl
  ·rw[if_neg fun e=>h (mK_inj.mp e),ih];exact decide_eq_decide.mpr ⟨.tail _,fun hm=>(Q5 hm).resolve_left fun e=>h e.symm⟩
theorem dput_krows{K:List Qx}{p:Qx}(h:p∉K):dput (krows K) (mK p) (.bool true)=krows (K++[p]):=by
 induction K with
 |nil=>rfl
 |cons q K ih=>exact(if_neg fun e=>h ((mK_inj.mp e:q=p)▸ .head _)).trans (congrArg _ (ih fun hm=>h (.tail _ hm)))
theorem isink_ok{K:List Qx}(h:σ[n]?=some (.dict (krows K))):Gy .isin (mV p) (.loc n) σ=some (decide (p∈K)):=by
 show memb (mV p) (.loc n) σ=_;unfold memb;dsimp only;rw[h,←dget_krows];rfl
theorem setk_ok{K:List Qx}(h:σ[n]?=some (.dict (krows K)))(hp:p∉K)(hl:K.length≤1000):Zm (.loc n) (mV p) (.bool true) σ=some (σ.set n (.dict (krows (K++[p])))):=by
 show(match σ[n]?,Je [V.int (p.1:Int),V.int (p.2:Int)]with
  |some (.dict es),some k=>if es.length<lim then some (σ.set n (.dict (dput es k (.bool true))))else none
  |_,_=>none)=_
 rw[h,←dput_krows hp];exact if_pos (Uw ((Qi _).symm▸Nat.le_trans hl (by decide)))
theorem popl_ok{xs:List V}{x:V}(h:σ[n]?=some (.list (xs++[x])))(hl:xs.length<1000):Ji .pop (.loc n) [] σ=some (x,σ.set n (.list xs)):=
 (mL h).trans ((if_pos (Uw (by rw[Q8];exact Nat.le_trans hl (by decide)))).trans (by rw[List.getLast?_concat,List.dropLast_concat];rfl))
theorem sl0a:Jc (mV p) none (some (.int ((0:Nat):Int))) σ=some (.tup [],σ):=rfl
theorem sl0b:Jc (mV p) (some (.int (((0:Nat):Int)+1))) none σ=some (.tup [.int (p.2:Int)],σ):=rfl
theorem sl1a:Jc (mV p) none (some (.int ((1:Nat):Int))) σ=some (.tup [.int (p.1:Int)],σ):=rfl
theorem sl1b:Jc (mV p) (some (.int (((1:Nat):Int)+1))) none σ=some (.tup [],σ):=rfl
theorem ta1{x:V}:Jx .add (.tup []) (.tup [x]) σ=some (.tup [x],σ):=rfl
theorem ta2{x y:V}:Jx .add (.tup [x]) (.tup [y]) σ=some (.tup [x,y],σ):=rfl
theorem ta3{x y:V}:Jx .add (.tup [x,y]) (.tup []) σ=some (.tup [x,y],σ):=rfl
structure SPS(σ:Sto)(L:List Qx)(nl nF nW nK:Nat)(F W K:List Qx)(S:Sto):Prop where
 pre:∃τ,S=σ++τ
 f:S[nF]?=some (.list (F.map mV))
 w:S[nW]?=some (.list (W.map mV))
 kn:S[nK]?=some (.dict (krows K))
 l:S[nl]?=some (.list (L.map mV))
 gf:σ.length≤nF
 gw:σ.length≤nW
 gk:σ.length≤nK
 d1:nF≠nW
 d2:nF≠nl
 d3:nW≠nl
theorem sp_loop{L:List Qx}(hLl:L.length≤1000){nF nW nK:Nat}:∀(n:Nat) (F W K r:List Qx),spRun L n F W K=some r→W.length+2*n≤900→F.length+n≤900→K.length+n≤900→∀{S:Sto} (fuel:Nat),SPS σ L nl nF nW nK F W K S→n≤fuel→
 ∃S',RW (G0 prog N (k+3)) N fuel grTest (bo 38 [2]) (spF nF nW nK nl) S .next (spF nF nW nK nl) S'∧(∃τ,S'=σ++τ)∧S'[nF]?=some (.list (r.map mV)):=by
 intro n;induction n with
 |zero=>intro F W K r h;cases h
 |succ n ih=>
  intro F W K r h hW hF hK S fuel I hf;cases fuel with
  |zero=>exact absurd hf (Nat.not_succ_le_zero n)
  |succ fuel=>
  have hf:=Nat.le_of_succ_le_succ hf;have htest:=wE (G0 prog N (k+3)) grTest (spF nF nW nK nl) S (Jr I.w (by rw[Qi];exact Nat.lt_of_le_of_lt (Nat.le_trans (Nat.le_add_right _ _) hW) (by decide)));rcases List.eq_nil_or_concat W with rfl|⟨W',p,rfl⟩
  ·cases h;exact⟨S,RW.stop htest rfl,I.pre,I.f⟩
  ·rw[List.concat_eq_append]at *;have h:(if(decide (p∈K)||(fdv 0 L p).isSome)=true then spRun L n F W' K else spRun L n (F++[p]) (W'++[(p.1+1,p.2),(p.1,p.2+1)]) (K++[p]))=some r:=by
    unfold spRun at h;rw[List.getLast?_concat,List.dropLast_concat]at h;exact h
   have hWl:W'.length+1+2*(n+1)≤900:=by rwa[Q8]at hW
   have hW1:W'.length+2+2*n≤900:=by exact Gh (G6 _ _) 1 (.add (.add (.var 0) (.num 2)) (.mulL 2 (.var 1))) (.num 900) [Gb 1 (.add (.add (.var 0) (.num 1)) (.mulL 2 (.add (.var 1) (.num 1)))) (.num 900)] rfl hWl
   have hW2:W'.length+2≤900:=Nat.le_trans (Nat.le_add_right _ _) hW1;have htrue:decide ((0:Int)<(((W'++[p]).map mV).length:Int))=true:=decide_eq_true (Int.ofNat_lt.mpr (by rw[Qi,Q8];exact Nat.succ_pos _));have hw':S[nW]?=some (.list (W'.map mV++[mV p])):=by
    have:=I.w;rwa[Qr]at this
   have hpop:=popl_ok hw' (by rw[Qi];exact Nat.lt_of_lt_of_le (Nat.lt_add_of_pos_right (by decide)) (Nat.le_trans hW2 (by decide)));let S1:Sto:=S.set nW (.list (W'.map mV));have hpre1:∃τ,S1=σ++τ:=Yb I.pre I.gw;have hf1:S1[nF]?=some (.list (F.map mV)):=Gr I.f (Ne.symm I.d1);have hk1:S1[nK]?=some (.dict (krows K)):=G8 I.w I.kn;have hl1:S1[nl]?=some (.list (L.map mV)):=Gr I.l I.d3;have hw1:S1[nW]?=some (.list (W'.map mV)):=G7 I.w;refine z11 (c_divided (N:=N) (k:=k) (σ:=S1) (p:=p) hl1 hLl) fun τ2 hdv=>?_;have skip:∀τ,spRun L n F W' K=some r→QB (G0 prog N (k+3)) N (bo 38 [2]) (spF nF nW nK nl) S .cont [(7,.loc nF),(33,.loc nW),(40,.loc nK),(20,.loc nl),(6,.int ((2:Nat):Int)),(1,mV p)] (S1++τ)→
    ∃S',RW (G0 prog N (k+3)) N (fuel+1) grTest (bo 38 [2]) (spF nF nW nK nl) S .next (spF nF nW nK nl) S'∧(∃τ,S'=σ++τ)∧S'[nF]?=some (.list (r.map mV)):=fun τ h hb=>
    (ih F W' K r h (Nat.le_trans (Nat.add_le_add_right (Nat.le_add_right _ 2) _) hW1) (Nat.le_trans (Nat.add_le_add_left (Nat.le_succ n) _) hF) (Nat.le_trans (Nat.add_le_add_left (Nat.le_succ n) _) hK) fuel {pre:=Qz hpre1,f:=Qw hf1,w:=Qw hw1,kn:=Qw hk1,l:=Qw hl1,gf:=I.gf,gw:=I.gw,gk:=I.gk,d1:=I.d1,d2:=I.d2,d3:=I.d3} hf).imp fun S' e=>⟨RW.turn htest htrue hb [7,33,40,20,6] e.1 trivial,e.2⟩
   by_cases hpK:p∈K
   ·rw[decide_eq_true hpK,Bool.true_or,if_pos rfl]at h;have hb:=wB (G0 prog N (k+3)) N (bo 38 [2]) (spF nF nW nK nl) S rfl hpop (isink_ok hk1) (decide_eq_true hpK) rfl;exact skip [] h ((Qp S1).symm▸hb)
   rw[decide_eq_false hpK,Bool.false_or]at h;cases hfv:(fdv 0 L p).isSome with
   |true=>
    rw[if_pos hfv]at h;exact skip τ2 h (wB (G0 prog N (k+3)) N (bo 38 [2]) (spF nF nW nK nl) S rfl hpop (isink_ok hk1) (decide_eq_false hpK) hdv hfv)
   |false=>
    rw[if_neg (by rw[hfv];exact Bool.false_ne_true)]at h;have hk2:=Qw (τ:=τ2) hk1;let S3:Sto:=(S1++τ2).set nK (.dict (krows (K++[p])));have ne:∀{i:Nat} {xs:List V},S1[i]?=some (.list xs)→S3[i]?=some (.list xs):=fun h=>Gr (Qw h) (ld_ne (Qw h) hk2).symm;have hK1:K.length≤1000:=Nat.le_trans (Nat.le_add_right _ _) (Nat.le_trans hK (by decide));let S4:Sto:=S3.set nF (.list ((F++[p]).map mV));have happ:Ji .append (.loc nF) [mV p] S3=some (.none,S4):=(Ye (ne hf1) (by rw[Qi];exact Nat.lt_of_le_of_lt (Nat.le_trans (Nat.le_add_right _ _) hF) (by decide))).trans (by rw[show F.map mV++[mV p]=(F++[p]).map mV from map_snoc]);have hw4:S4[nW]?=some (.list (W'.map mV)):=Gr (ne hw1) I.d1;have hl4:S4[nl]?=some (.list (L.map mV)):=Gr (ne hl1) I.d2;have hk4:S4[nK]?=some (.dict (krows (K++[p]))):=G8 (ne hf1) (G7 hk2);have hf4:S4[nF]?=some (.list ((F++[p]).map mV)):=G7 (ne hf1);let S5:Sto:=S4.set nW (.list (W'.map mV++[mV (p.1+1,p.2)]));have hw5:S5[nW]?=some (.list (W'.map mV++[mV (p.1+1,p.2)])):=G7 hw4;let S6:Sto:=S5.set nW (.list (W'.map mV++[mV (p.1+1,p.2)]++[mV (p.1,p.2+1)]));have hWm:(W'.map mV).length+2≤900:=by rw[Qi];exact hW2
    have a5:Ji .append (.loc nW) [mV (p.1+1,p.2)] S4=some (.none,S5):=Ye hw4 (Nat.lt_of_lt_of_le (Nat.lt_add_of_pos_right (by decide)) (Nat.le_trans hWm (by decide)));have a6:Ji .append (.loc nW) [mV (p.1,p.2+1)] S5=some (.none,S6):=Ye hw5 (by rw[Q8];exact Nat.lt_of_lt_of_le (Nat.lt_succ_self _) (Nat.le_trans hWm (by decide)));let fr:AL:=[(7,.loc nF),(33,.loc nW),(40,.loc nK),(20,.loc nl),(6,.int ((2:Nat):Int)),(1,mV p)]
    let fr0:AL:=[(7,.loc nF),(33,.loc nW),(40,.loc nK),(20,.loc nl),(6,.int ((2:Nat):Int)),(1,mV p),(5,.int ((0:Nat):Int))]
    let fr1:AL:=[(7,.loc nF),(33,.loc nW),(40,.loc nK),(20,.loc nl),(6,.int ((2:Nat):Int)),(1,mV p),(5,.int ((1:Nat):Int))]
    have hfor:QS (G0 prog N (k+3)) N _ fr S4 .next fr S6:=RF.for (wE (G0 prog N (k+3)) (.var 6) fr S4) (rsrc_ok (j:=2) (by decide)) [7,33,40,20,6,1] (RF.cons (tg:=.one 5) (x:=.int ((0:Nat):Int)) (items:=[.int ((1:Nat):Int)]) rfl rfl (wB (G0 prog N (k+3)) N (bo 38 [2,4]) fr0 S4 sl0a subm_0 ta1 sl0b ta2 rfl a5) trivial [7,33,40,20,6,1]
     (RF.cons rfl rfl (wB (G0 prog N (k+3)) N (bo 38 [2,4]) fr1 S5 sl1a subm_1 ta2 sl1b ta3 rfl a6) trivial [7,33,40,20,6,1] (RF.nil rfl rfl)))
    refine(ih (F++[p]) (W'++[(p.1+1,p.2),(p.1,p.2+1)]) (K++[p]) r h (by rw[Q8];exact hW1) (by rw[Q8,Nat.add_assoc,List.length_singleton,Nat.add_comm 1];exact hF) (by rw[Q8,Nat.add_assoc,List.length_singleton,Nat.add_comm 1];exact hK) fuel {pre:=Yb (Yb (Yb (Yb (Qz hpre1) I.gk) I.gf) I.gw) I.gw,f:=Gr (Gr hf4 (Ne.symm I.d1)) (Ne.symm I.d1),w:=?_,kn:=G8 hw5 (G8 hw4 hk4),l:=Gr (Gr hl4 I.d3) I.d3,gf:=I.gf,gw:=I.gw,gk:=I.gk,d1:=I.d1,d2:=I.d2,d3:=I.d3} hf).imp fun S' e=>⟨RW.turn htest htrue (wB (G0 prog N (k+3)) N (bo 38 [2]) (spF nF nW nK nl) S rfl hpop (isink_ok hk1) (decide_eq_false hpK) hdv hfv (setk_ok hk2 hpK hK1) rfl happ hfor) [7,33,40,20,6] e.1 trivial,e.2⟩
    have e:W'.map mV++[mV (p.1+1,p.2)]++[mV (p.1,p.2+1)]=(W'++[(p.1+1,p.2),(p.1,p.2+1)]).map mV:=by rw[Qr,Qb];rfl
    exact(G7 hw5).trans (congrArg (fun z=>some (Ob.list z)) e)
end
theorem sort4(σ:Sto):Yr σ ([(0,0),(0,1),(1,1),(1,0)].map mV)=some ([(0,0),(0,1),(1,0),(1,1)].map mV):=by kernel_rfl
theorem sort3(σ:Sto):Yr σ ([(0,0),(0,1),(1,0)].map mV)=some ([(0,0),(0,1),(1,0)].map mV):=by kernel_rfl
theorem sort2a(σ:Sto):Yr σ ([(0,0),(0,1)].map mV)=some ([(0,0),(0,1)].map mV):=by kernel_rfl
theorem sort2b(σ:Sto):Yr σ ([(0,0),(1,0)].map mV)=some ([(0,0),(1,0)].map mV):=by kernel_rfl
noncomputable def Yv(L:List Qx)(c:Nat):Prop:=finB L=true∧L.length≤3∧∃r,spRun L 40 [] [(0,0)] []=some r∧r.length=c∧∀σ,∃l',Yr σ (r.map mV)=some l'∧l'.length=c
theorem lo_full:Yv [(0,2),(2,0)] 4:=⟨by decide,by decide,[(0,0),(0,1),(1,1),(1,0)],by decide,rfl,fun σ=>⟨_,sort4 σ,rfl⟩⟩
theorem lo_three:Yv [(0,2),(1,1),(2,0)] 3:=⟨by decide,by decide,[(0,0),(0,1),(1,0)],by decide,rfl,fun σ=>⟨_,sort3 σ,rfl⟩⟩
theorem lo_a:Yv [(0,2),(1,0)] 2:=⟨by decide,by decide,[(0,0),(0,1)],by decide,rfl,fun σ=>⟨_,sort2a σ,rfl⟩⟩
theorem lo_b:Yv [(1,0),(0,2)] 2:=⟨by decide,by decide,[(0,0),(0,1)],by decide,rfl,fun σ=>⟨_,sort2a σ,rfl⟩⟩
theorem lo_c:Yv [(0,1),(2,0)] 2:=⟨by decide,by decide,[(0,0),(1,0)],by decide,rfl,fun σ=>⟨_,sort2b σ,rfl⟩⟩
theorem lo_one:Yv [(0,1),(1,0)] 1:=⟨by decide,by decide,[(0,0)],by decide,rfl,fun σ=>⟨_,rfl,rfl⟩⟩
theorem lo_none:Yv [(0,0)] 0:=⟨by decide,by decide,[],by decide,rfl,fun σ=>⟨_,rfl,rfl⟩⟩
theorem lo_two{o:Nat}{x y:PG}(hx:x.2=(1,0))(hy:y.2=(0,2)):Yv ((two o x y).map (·.2)) 2:=by
 unfold two;split
 ·simp only[Q7,Qm,hx,hy];exact lo_a
 ·simp only[Q7,Qm,hx,hy];exact lo_b
theorem lo_all(o:Nat)(a c b d:Rat):∀s1 s2 s3 s4,Yv ((HF o a c b d s1 s2 s3 s4).map (·.2)) (sel a c b d s1 s2 s3 s4).length
 |true,true,true,true=>lo_full
 |false,true,true,true=>lo_three
 |true,false,true,true=>lo_three
 |true,true,false,true=>lo_three
 |true,true,true,false=>lo_three
 |true,true,false,false=>lo_two rfl rfl
 |false,false,true,true=>lo_two rfl rfl
 |true,false,true,false=>lo_c
 |false,true,false,true=>lo_c
 |true,false,false,true=>lo_two rfl rfl
 |false,true,true,false=>lo_two rfl rfl
 |true,false,false,false=>lo_one
 |false,true,false,false=>lo_one
 |false,false,true,false=>lo_one
 |false,false,false,true=>lo_one
 |false,false,false,false=>lo_none
section
variable{N k:Nat}{σ:Sto}{Φ:Calls}{n na nb nl nw nk nq ns nf:Nat}{T A B F:Tm}{m p a b:Qx}{o:Nat}{bs:List Be}
theorem c_standard(hN:Big N)(ho:o<3)(H:Gj o bs nb σ){cnt:Nat}(hL:Yv (bs.map (·.m)) cnt):
 ∃τ n' l,G0 prog N (k+4) 38 [.loc nb,.str o,.int 2] σ=some (.loc n',σ++τ)∧(σ++τ)[n']?=some (.list l)∧l.length=cnt:=by
 refine cps fun qG qK=>?_;obtain⟨_,hl3,r,hrun,hrl,hsort⟩:=hL;refine z11 (Z5 (N:=N) (k:=k+1) ho H (wE _ (.var 35) [(35,.loc nb),(0,.str o),(6,.int 2)] σ) fun _=>rfl) fun τ1 e1=>?_;let L:=bs.map (·.m);let S1:Sto:=σ++τ1++[.list (L.map mV)];let S2:Sto:=S1++[.list []];let S3:Sto:=S2++[.list [mV (0,0)]];let S4:Sto:=S3++[.dict []];have hL1:S1[(σ++τ1).length]?=some (.list (L.map mV)):=G1;have hf:S2[S1.length]?=some (.list []):=G1;have hw:S3[S2.length]?=some (.list [mV (0,0)]):=G1;have g1:σ.length≤S1.length:=J7 (Qz ⟨τ1,rfl⟩);have g2:S1.length<S2.length:=J5 hf;have g3:S2.length<S3.length:=J5 hw;have I:SPS σ L (σ++τ1).length S1.length S2.length S3.length [] [(0,0)] [] S4:=
  {
   pre:=Qz (Qz (Qz (Qz ⟨τ1,rfl⟩))),f:=Qw (Qw hf),w:=Qw hw,kn:=G1,l:=Qw (Qw (Qw hL1)),
   gf:=g1,gw:=Nat.le_trans g1 (Nat.le_of_lt g2),gk:=Nat.le_trans g1 (Nat.le_of_lt (Nat.lt_trans g2 g3)),d1:=Nat.ne_of_lt g2,d2:=Nat.ne_of_gt (J5 hL1),d3:=Nat.ne_of_gt (Nat.lt_trans (J5 hL1) g2)}
 refine z13 (sp_loop (N:=N) (k:=k) (by rw[Qi];exact Nat.le_trans H.len (by decide)) 40 [] [(0,0)] [] r hrun (by decide) (by decide) (by decide) N I (Nat.le_of_lt (hN.small (by decide)))) fun S' g1 g2 g4=>z11 g2 fun τ g2=>?_;refine z12 (hsort (S'++[.list []])) fun l' hl' hl2=>?_;refine qK ?_;subst g2;refine⟨τ++[.list l'],(σ++τ).length,l',?_,by rw[←Qb];exact G1,hl2⟩;have hsorted:Jd .sorted [.loc S1.length] (σ++τ)=some (.loc (σ++τ).length,σ++τ++[.list l']):=by
  have e:Gn (.loc S1.length) (σ++τ)=some (r.map mV):=by unfold Gn;dsimp only;rw[g4]
  show((Gn (.loc S1.length) (σ++τ)).bind fun l=>(Yr (σ++τ++[.list []]) l).bind fun l'=>some (V.loc (σ++τ).length,σ++τ++[.list l']))=_;rw[e];exact bnI rfl (bnI hl' rfl)
 rw[←Qb];exact wF N (k+3) 38 [.loc nb,.str o,.int 2] σ e1 (rfl:Jx .mul (.tup [.int 0]) (.int 2) S2=some (mV (0,0),S2)) (RW.loop [7,33,40,20,6] g1) hsorted
end
abbrev ZT:=List (Qx×Int)
noncomputable def zT(L:ZT):Tm:=L.map fun x=>(x.1,(x.2:Rat))
noncomputable def pz(x:Qx×Int):V:=.tup [mV x.1,.int x.2]
noncomputable def pq(x:Qx×Int):V:=.tup [mV x.1,.tup [.int x.2,.int 1]]
theorem ratV_int(c:Int):Gg (c:Rat)=.tup [.int c,.int 1]:=rfl
theorem pairs_ok:∀(L:ZT) (A:Tm),(keys (A++zT L)).Nodup→Z2 (L.map pq) (Qy A)=some (Qy (A++zT L))
 |[],A,_=>congrArg (fun z=>some (Qy z)) (Qp A).symm
 |x::L,A,h=>by
  have e:A++zT (x::L)=(A++[(x.1,(x.2:Rat))])++zT L:=by rw[Qb];rfl
  have hx:x.1∉keys A:=fun hm=>by
   unfold keys at h;rw[Qr,List.nodup_append]at h;exact h.2.2 _ hm x.1 (.head _) rfl
  rw[e,←pairs_ok L (A++[(x.1,(x.2:Rat))]) (by rw[←e];exact h),←tput_new hx,←dput_rows];rfl
theorem mkT_zT(L:ZT):mkT (zT L)=zT (L.filter fun x=>decide (x.2≠0)):=by
 unfold mkT zT;rw[List.filter_map];exact congrArg _ (List.filter_congr fun x _=>decide_eq_decide.mpr (not_congr Rat.intCast_eq_zero_iff))
theorem keys_mkT{T:Tm}(h:(keys T).Nodup):(keys (mkT T)).Nodup:=(List.Sublist.map _ (List.filter_sublist)).nodup h
theorem Z7{i:Int}(h:i.natAbs≤100000):fits i=true:=decide_eq_true (Nat.lt_of_le_of_lt (Nat.le_trans (Nat.log2_le_self _) h) (by decide))
noncomputable def Kp(X:List Nat)(σ σ':Sto):Prop:=∀i ob,i∉X→σ[i]?=some ob→σ'[i]?=some ob
theorem Kp.refl{X:List Nat}{σ:Sto}:Kp X σ σ:=fun _ _ _ h=>h
theorem Kp.trans{X:List Nat}{σ σ' σ'':Sto}(h:Kp X σ σ')(h2:Kp X σ' σ''):Kp X σ σ'':=fun i ob hi e=>h2 i ob hi (h i ob hi e)
theorem Kp.app{X:List Nat}{σ σ' τ:Sto}(h:Kp X σ σ'):Kp X σ (σ'++τ):=fun i ob hi e=>Qw (h i ob hi e)
theorem Kp.set{X:List Nat}{σ σ':Sto}{n:Nat}{o:Ob}(h:Kp X σ σ')(hn:n∈X):Kp X σ (σ'.set n o):=fun i ob hi e=>Gr (h i ob hi e) fun e'=>hi (e'▸hn)
section
variable{N k:Nat}{σ:Sto}{Φ:Calls}{n na nb nl nw nk nq ns nf nB nS cnt:Nat}{T A B F:Tm}{m p a b:Qx}{o:Nat}{bs:List Be}{xs ys:List V}
theorem setl_ok{v:V}{j:Nat}(h:σ[n]?=some (.list xs))(hj:j<xs.length)(hl:xs.length≤1000):Zm (.loc n) (.int (j:Int)) v σ=some (σ.set n (.list (xs.set j v))):=by
 have hj2:(j:Int)<2^62:=Int.lt_of_le_of_lt (Int.ofNat_le.mpr (Nat.le_trans (Nat.le_of_lt hj) hl)) p62;unfold Zm;dsimp only;rw[h];dsimp only;rw[if_pos ⟨Int.natCast_nonneg j,hj2,hj⟩,Int.toNat_natCast]
theorem eqD_ll{d:Nat}(hm:σ[na]?=some (.list xs))(hn:σ[nb]?=some (.list ys))(hne:na≠nb):eqD (d+1) σ (.loc na) (.loc nb)=if xs.length=ys.length then Y8 (eqD d σ) xs ys else some false:=by
 show(if na=nb then some true else _)=_;rw[if_neg hne,hm,hn]
theorem eqD_dd{d:Nat}{a b:List (List Int×V)}(hm:σ[na]?=some (.dict a))(hn:σ[nb]?=some (.dict b))(hne:na≠nb):eqD (d+1) σ (.loc na) (.loc nb)=if a.length=b.length then eqRows (eqD d σ) b a else some false:=by
 show(if na=nb then some true else _)=_;rw[if_neg hne,hm,hn]
theorem eql_ok(hm:σ[na]?=some (.list xs))(hn:σ[nb]?=some (.list ys))(hne:na≠nb){r:Bool}(h:xs.length=ys.length→Y8 (eqD 7 σ) xs ys=some r)(h2:xs.length≠ys.length→r=false):
 Gy .eq (.loc na) (.loc nb) σ=some r∧Gy .ne (.loc na) (.loc nb) σ=some (!r):=by
 have e:eqD 8 σ (.loc na) (.loc nb)=some r:=by
  rw[eqD_ll hm hn hne];by_cases hl:xs.length=ys.length
  ·rw[if_pos hl];exact h hl
  ·rw[if_neg hl,h2 hl]
 have e':eqB (.loc na) (.loc nb) σ=some r:=by
  show((σ[nb]?.bind Ob.asLst).bind fun _=>if na=nb then none else eqD 8 σ (.loc na) (.loc nb))=some r;rw[hn,Q0,asLst_l,Q0,if_neg hne,e]
 exact⟨e',congrArg (Option.map (!·)) e'⟩
theorem eqnil_ok(hm:σ[na]?=some (.list xs)):Gy .eq (.loc na) (.loc σ.length) (σ++[Ob.list []])=some (decide (xs=[]))∧Gy .ne (.loc na) (.loc σ.length) (σ++[Ob.list []])=some (!decide (xs=[])):=by
 refine eql_ok (ys:=[]) (Qw hm) G1 (Nat.ne_of_lt (J5 hm)) (fun h=>?_) (fun h=>?_)
 ·have:xs=[]:=List.length_eq_zero_iff.mp h;subst this;rfl
 ·rw[decide_eq_false];rintro rfl;exact h rfl
structure Box(nB nS cnt:Nat)(zs:List Int)(σ:Sto):Prop where
 b:σ[nB]?=some (.list [.loc nS,.int (cnt:Int)])
 s:σ[nS]?=some (.list (zs.map V.int))
 ne:nB≠nS
 len:zs.length≤100
theorem mod_ok{i:Int}{j:Nat}(hj:0<j):∃r:Nat,Jx .mod (.int i) (.int (j:Int)) σ=some (.int (r:Int),σ)∧r<j:=by
 have hj':(0:Int)<(j:Int):=Int.ofNat_lt.mpr hj;have h0:=Int.fmod_nonneg_of_pos i hj';refine⟨(i.fmod j).toNat,?_,Int.ofNat_lt.mp (by rw[Int.toNat_of_nonneg h0];exact Int.fmod_lt_of_pos i hj')⟩;rw[Int.toNat_of_nonneg h0];exact if_neg (Int.ne_of_gt hj')
theorem Uz{zs:List Int}(H:Box nB nS cnt zs σ){j:Nat}(hj:0<j)(hc:cnt≤900):∃(r:Nat) (σ':Sto) (zs':List Int),G0 prog N (k+1) 39 [.loc nB,.int (j:Int)] σ=some (.int (r:Int),σ')∧r<j∧Box nB nS (cnt+1) zs' σ'∧Kp [nB,nS] σ σ':=by
 let σ1:Sto:=σ.set nB (.list [.loc nS,.int ((cnt+1:Nat):Int)]);have hb1:σ1[nB]?=some (.list [.loc nS,.int ((cnt+1:Nat):Int)]):=G7 H.b;have hs1:σ1[nS]?=some (.list (zs.map V.int)):=Gr H.s H.ne;have hset:Zm (.loc nB) (.int 1) (.int ((cnt+1:Nat):Int)) σ=some σ1:=setl_ok (j:=1) H.b (by decide:1<2) (by decide:2≤1000);have h2:∀{x y:V},[x,y].length≤1000:=by intro x y;exact(by decide:2≤1000)
 have a0:Jg (.loc nB) (.int 1) σ=some (.int (cnt:Int)):=Y0 (j:=1) H.b rfl h2;have b0:∀τ,Jg (.loc nB) (.int 0) (σ1++τ)=some (.loc nS):=fun τ=>Y0 (j:=0) (Qw hb1) rfl h2;have b1:∀τ,Jg (.loc nB) (.int 1) (σ1++τ)=some (.int ((cnt+1:Nat):Int)):=fun τ=>Y0 (j:=1) (Qw hb1) rfl h2;have b0':Jg (.loc nB) (.int 0) σ1=some (.loc nS):=Y0 (j:=0) hb1 rfl h2;have hkp:Kp [nB,nS] σ σ1:=Kp.refl.set (.head _);have hn:=(eqnil_ok hs1).2;cases zs with
 |nil=>
  have hcl:((cnt+1:Nat):Int).natAbs≤100000:=Nat.le_trans (Nat.succ_le_succ hc) (by decide);refine z12 (mod_ok (σ:=σ1++[Ob.list []]) (i:=5*((cnt+1:Nat):Int)+((cnt+1:Nat):Int).fdiv 3) hj) fun r hr hlt=>?_;exact⟨r,σ1++[Ob.list []],[],wF N k 39 [.loc nB,.int (j:Int)] σ a0 hset b0' hn rfl (b1 _) (Ym (Z7 (by decide)) (Z7 hcl)) (b1 _) (fdiv_ok (by decide)) hr,hlt,⟨Qw hb1,Qw hs1,H.ne,H.len⟩,hkp.app⟩
 |cons z zs=>
  have hs2:(σ1++[Ob.list []])[nS]?=some (.list (V.int z::zs.map V.int)):=Qw hs1;let σ3:Sto:=(σ1++[Ob.list []]).set nS (.list (zs.map V.int));refine z12 (mod_ok (σ:=σ3) (i:=z) hj) fun r hr hlt=>?_;have hlen:zs.length≤100:=Nat.le_trans (Nat.le_succ _) H.len;have hpop:Ji .pop (.loc nS) [.int 0] (σ1++[Ob.list []])=some (.int z,σ3):=(mL hs2).trans (show(if(([]:List V)=[]∧(0:Int)=0)∧(zs.map V.int).length<lim then some (V.int z,σ3)else none)=_ from if_pos ⟨⟨rfl,rfl⟩,Uw (by rw[Qi];exact Nat.le_trans hlen (by decide))⟩);exact⟨r,σ3,zs,wF N k 39 [.loc nB,.int (j:Int)] σ a0 hset b0' hn rfl (b0 _) rfl hpop hr,hlt,⟨Gr (Qw hb1) (Ne.symm H.ne),G7 hs2,H.ne,hlen⟩,(hkp.app).set (.tail _ (.head _))⟩
noncomputable def pE:Ex:=.tup (.cons (.var 1) (.cons (.tup (.cons (.var 43) (.cons (.int 1) .nil))) .nil))
theorem c_poly{L:ZT}(h:σ[n]?=some (.list (L.map pz)))(hn:(keys (zT L)).Nodup)(hl:L.length≤100):∃τ nd,G0 prog N (k+1) 40 [.loc n] σ=some (.loc nd,σ++τ)∧(σ++τ)[nd]?=some (.dict (Qy (mkT (zT L))))∧σ.length≤nd:=by
 refine z11 (RE.al (Φ:=G0 prog N k) (g:=fun x:Qx×Int=>cond (decide (x.2≠0)) [pq x] []) (fr:=[(42,.loc n)]) (elt:=pE) (tg:=.many [1,43]) (cd:=.yes (.cmp .ne (.var 43) (.int 0))) (wE _ (.var 42) [(42,.loc n)] σ) h (Nat.le_trans hl (by decide)) (fun _ _=>cond_len) fun x _ acc τ ha=>⟨τ,?_⟩) fun τ e=>?_
 ·have c:=wE (G0 prog N k) (.cmp .ne (.var 43) (.int 0)) [(42,.loc n),(1,mV x.1),(43,.int x.2)] (σ.set n (.ro (L.map pz))++τ);cases h0:decide (x.2≠0)with
  |true=>exact RT.yes rfl c ((decide_not ..).symm.trans h0) (wE (G0 prog N k) pE [(42,.loc n),(1,mV x.1),(43,.int x.2)] _) (Yw ha)
  |false=>exact(Qp acc).symm▸RT.skip rfl c ((decide_not ..).symm.trans h0)
 ·rw[flat_filter]at e;have hz:=mkT_zT L;have hp:Z2 ((L.filter fun x=>decide (x.2≠0)).map pq) []=some (Qy (mkT (zT L))):=hz▸pairs_ok (L.filter fun x=>decide (x.2≠0)) [] (hz▸keys_mkT hn);have hd:Jd .dict [.loc (σ++τ).length] (σ++τ++[.list ((L.filter fun x=>decide (x.2≠0)).map pq)])=some (.loc (σ++τ++[Ob.list ((L.filter fun x=>decide (x.2≠0)).map pq)]).length,σ++τ++[.list ((L.filter fun x=>decide (x.2≠0)).map pq)]++[.dict (Qy (mkT (zT L)))]):=by
   show((σ++τ++[Ob.list ((L.filter fun x=>decide (x.2≠0)).map pq)])[(σ++τ).length]?.bind fun o=>mkDict o _)=_;rw[G1];exact(if_pos (Uw (by rw[Qi];exact Nat.le_trans (List.length_filter_le _ _) (Nat.le_trans hl (by decide))))).trans (bnI hp rfl)
  exact z11 (Qz (τ':=[.dict (Qy (mkT (zT L)))]) (Qz (τ':=[.list ((L.filter fun x=>decide (x.2≠0)).map pq)]) ⟨τ,rfl⟩)) fun t ht=>⟨t,_,ht▸wF N k 40 [.loc n] σ e hd,ht▸G1,J7 (Qz ⟨τ,rfl⟩)⟩
end
noncomputable def newT(f:Nat)(x y v:Int):ZT:=match f with
 |0=>[((1,1),1),((1,0),0-y),((0,1),0-x),((0,0),x*y)]
 |1=>[((1,0),1),((0,1),v),((0,0),0-x-v*y)]
 |_=>[((1,1),1),((0,0),0-x*y)]
noncomputable def newM(f:Nat):Qx:=match f with
 |1=>(1,0)
 |_=>(1,1)
noncomputable def vz(L:ZT)(x y:Int):Int:=sumI (L.map fun e=>e.2*x^e.1.1*y^e.1.2) 0
theorem intCast_pow'(x:Int):∀n:Nat,((x^n:Int):Rat)=(x:Rat)^n
 |0=>by rw[Int.pow_zero,Rat.pow_zero];rfl
 |n+1=>by rw[Int.pow_succ,Rat.pow_succ,Rat.intCast_mul,intCast_pow' x n]
theorem sumI_ev(x y:Int):∀(L:ZT) (a:Int),((sumI (L.map fun e=>e.2*x^e.1.1*y^e.1.2) a:Int):Rat)=a+ev (zT L) ((x:Rat),(y:Rat))
 |[],a=>(Rat.add_zero _).symm
 |e::L,a=>by
  show((sumI (L.map fun e=>e.2*x^e.1.1*y^e.1.2) (a+e.2*x^e.1.1*y^e.1.2):Int):Rat)=a+((e.2:Rat)*((x:Rat)^e.1.1*(y:Rat)^e.1.2)+ev (zT L) ((x:Rat),(y:Rat)));rw[sumI_ev x y L,Rat.intCast_add,Rat.intCast_mul,Rat.intCast_mul,intCast_pow',intCast_pow',Rat.mul_assoc,Rat.add_assoc]
theorem vz_ev(L:ZT)(x y:Int):((vz L x y:Int):Rat)=ev (zT L) ((x:Rat),(y:Rat)):=(sumI_ev x y L 0).trans (Rat.zero_add _)
theorem cf_mkT:∀(T:Tm) (n:Qx),(keys T).Nodup→cf (mkT T) n=cf T n
 |[],n,_=>rfl
 |(m,c)::r,n,h=>by
  have ih:=cf_mkT r n (List.nodup_cons.mp h).2;unfold mkT at ih⊢;rw[List.filter_cons];by_cases h0:c=0
  ·rw[if_neg (by simp[h0]),ih];simp only[cf,h0];split<;>grind
  ·rw[if_pos (decide_eq_true h0)];simp only[cf,ih]
theorem co_mkT{T:Tm}(h:(keys T).Nodup):co (mkT T)=cf T:=by
 funext n;rw[←cf_co (keys_mkT h),cf_mkT T n h]
section
variable{N k:Nat}{σ:Sto}{Φ:Calls}{n na nb nl nw nk nq ns nf nB nS cnt:Nat}{T A B F:Tm}{m p a b:Qx}{o:Nat}{bs:List Be}{xs ys:List V}
theorem newT_nodup(f:Nat)(x y v:Int):(keys (zT (newT f x y v))).Nodup:=by
 match f with
 |0=>exact(by decide:([(1,1),(1,0),(0,1),(0,0)]:List Qx).Nodup)
 |1=>exact(by decide:([(1,0),(0,1),(0,0)]:List Qx).Nodup)
 |_+2=>exact(by decide:([(1,1),(0,0)]:List Qx).Nodup)
theorem newT_len(f:Nat)(x y v:Int):(newT f x y v).length≤100:=by
 match f with
 |0=>exact(by decide:4≤100)
 |1=>exact(by decide:3≤100)
 |_+2=>exact(by decide:2≤100)
theorem c_new{f:Nat}{x y v:Int}(hx:x.natAbs≤100)(hy:y.natAbs≤100)(hv:v.natAbs≤100):∃τ nd,G0 prog N (k+2) 41 [.int (f:Int),.int x,.int y,.int v] σ=some (.loc nd,σ++τ)∧(σ++τ)[nd]?=some (.dict (Qy (mkT (zT (newT f x y v)))))∧σ.length≤nd:=by
 have fi:∀{i:Int},i.natAbs≤100→fits i=true:=fun h=>Z7 (Nat.le_trans h (by decide));refine z23 (c_poly (N:=N) (k:=k) (σ:=σ++[.list ((newT f x y v).map pz)]) (n:=σ.length) G1 (newT_nodup f x y v) (newT_len f x y v)) fun τ nd e1 e2 e3=>?_;refine z11 (Qz (τ':=τ) (Qz (τ':=[.list ((newT f x y v).map pz)]) ⟨[],(Qp σ).symm⟩)) fun t ht=>⟨t,nd,ht▸ ?_,ht▸e2,Nat.le_trans (J7 ⟨_,rfl⟩) e3⟩
 match f,e1 with
 |0,e1=>exact wF N (k+1) 41 [.int ((0:Nat):Int),.int x,.int y,.int v] σ rfl (Ym (fi hx) (fi hy)) e1
 |1,e1=>exact wF N (k+1) 41 [.int ((1:Nat):Int),.int x,.int y,.int v] σ rfl rfl (Ym (fi hv) (fi hy)) e1
 |f+2,e1=>exact wF N (k+1) 41 [.int ((f+2:Nat):Int),.int x,.int y,.int v] σ (decide_eq_false fun e=>nomatch Int.ofNat.inj e) (decide_eq_false fun e=>nomatch Int.ofNat.inj e) (Ym (fi hx) (fi hy)) e1
theorem powi_ok{x:Int}{i:Nat}(hi:i≤1)(hx:x.natAbs<100):Jx .pow (.int x) (.int (i:Int)) σ=some (.int (x^i),σ):=by
 rw[binop_pow,if_pos ⟨Int.natCast_nonneg i,Int.ofNat_lt.mpr (Nat.lt_of_le_of_lt hi (by decide:1<100000)),hx⟩,Int.toNat_natCast]
theorem abs_pow{x:Int}{i:Nat}(hi:i≤1)(hx:x.natAbs≤10):(x^i).natAbs≤10:=by
 match i,hi with
 |0,_=>rw[Int.pow_zero];decide
 |1,_=>rw[Int.pow_succ,Int.pow_zero,Int.one_mul];exact hx
theorem sum_last{l:List Int}:Jd .sum [.loc σ.length] (σ++[.list (l.map V.int)])=some (.int (sumI l 0),σ++[.list (l.map V.int)]):=by
 have e:Gn (.loc σ.length) (σ++[.list (l.map V.int)])=some (l.map V.int):=by unfold Gn;dsimp only;rw[G1]
 show((Gn (.loc σ.length) (σ++[.list (l.map V.int)])).bind Je).bind _=_;rw[e];exact bnI (keyOf_map' l) rfl
theorem isrc_ok(h:σ[n]?=some (.dict (Qy T))):Gx .items (.loc n) σ=some (⟨T.map fun x=>.tup [mV x.1,Gg x.2],some (n,.rod (Qy T)),some (n,.dict (Qy T))⟩,σ.set n (.rod (Qy T))):=by
 unfold Gx;dsimp only;rw[h];dsimp only;rw[show((Qy T).map fun e=>V.tup [keyV e.1,e.2])=T.map fun x=>.tup [mV x.1,Gg x.2]from List.map_map]
noncomputable def Lw(L:ZT):Prop:=L.length≤100∧∀x∈L,x.1.1≤1∧x.1.2≤1∧x.2.natAbs≤100
noncomputable def vE:Ex:=.bin .mul (.bin .mul (.sub (.var 43) (.int 0)) (.bin .pow (.var 45) (.sub (.var 1) (.int 0)))) (.bin .pow (.var 46) (.sub (.var 1) (.int 1)))
theorem c_value{L:ZT}(h:σ[nf]?=some (.dict (Qy (zT L))))(hL:Lw L){x y:Int}(hx:x.natAbs≤10)(hy:y.natAbs≤10):∃τ,G0 prog N (k+1) 42 [.loc nf,.int x,.int y] σ=some (.int (vz L x y),σ++τ):=by
 let D:=Qy (zT L);let iv:Qx×Int→V:=fun e=>.tup [mV e.1,Gg (e.2:Rat)];have hsrc:Gx .items (.loc nf) σ=some (⟨L.map iv,some (nf,.rod D),some (nf,.dict D)⟩,σ.set nf (.rod D)):=(isrc_ok h).trans (by rw[show((zT L).map fun x=>V.tup [mV x.1,Gg x.2])=L.map iv from List.map_map]);refine z11 (aloop0 (σ:=σ) (σ₁:=σ.set nf (.rod D)) (src:=⟨L.map iv,some (nf,.rod D),some (nf,.dict D)⟩) (H:=fun ρ=>Has ρ [(21,.loc nf),(45,.int x),(46,.int y)]) (turn:=lT (G0 prog N k) vE (.many [1,43]) .no) (iv:=iv) (g:=fun e=>[V.int (e.2*x^e.1.1*y^e.1.2)]) (fun τ=>sok (Qw (G7 h))) (fun τ=>free_app h) L (fun e he acc τ ha=>⟨τ,?_⟩) (fun _ _=>Qs _) (Nat.le_trans hL.1 (by decide))) fun τ e=>?_
 ·refine zA3 (hL.2 e he) fun h1 h2 h3=>?_;have px:=abs_pow h1 hx;have py:=abs_pow h2 hy;have hm:(e.2*x^e.1.1).natAbs≤1000:=by
   rw[Int.natAbs_mul];exact Nat.mul_le_mul h3 px
  exact RT.one rfl (wE (G0 prog N k) vE [(21,.loc nf),(45,.int x),(46,.int y),(1,mV e.1),(43,.tup [.int e.2,.int 1])] _ sub_0 (rfl:Jg (mV e.1) (.int 0) _=some (.int (e.1.1:Int))) (powi_ok h1 (Nat.lt_of_le_of_lt hx (by decide))) (Ym (Z7 (Nat.le_trans h3 (by decide))) (Z7 (Nat.le_trans px (by decide)))) (rfl:Jg (mV e.1) (.int 1) _=some (.int (e.1.2:Int))) (powi_ok h2 (Nat.lt_of_le_of_lt hy (by decide))) (Ym (Z7 (Nat.le_trans hm (by decide))) (Z7 (Nat.le_trans py (by decide))))) (Yw ha)
 ·rw[flat1,show(L.map fun e=>V.int (e.2*x^e.1.1*y^e.1.2))=(L.map fun e=>e.2*x^e.1.1*y^e.1.2).map V.int from(List.map_map).symm]at e;exact z11 (Qz (τ':=[.list ((L.map fun e=>e.2*x^e.1.1*y^e.1.2).map V.int)]) ⟨τ,rfl⟩) fun t ht=>⟨t,ht▸wF N k 42 [.loc nf,.int x,.int y] σ (RE.lc (wE (G0 prog N k) (.var 21) [(21,.loc nf),(45,.int x),(46,.int y)] σ) hsrc e) sum_last⟩
end
structure LsAt(xs:List (Nat×Tm))(n:Nat)(σ:Sto):Prop where
 lst:σ[n]?=some (.list (xs.map fun x=>.loc x.1))
 at_:∀x∈xs,σ[x.1]?=some (.dict (Qy x.2))
 ok:∀x∈xs,Ok x.2
noncomputable def ptV(p:Int×Int):V:=.tup [.int p.1,.int p.2]
theorem ok_mkT{L:ZT}(hn:(keys (zT L)).Nodup)(hs:∀x∈L,x.1.1<6∧x.1.2<6):Ok (mkT (zT L)):=
 ⟨keys_mkT hn,fun x hx=>z12 (Qg (List.mem_filter.mp hx).1) fun y hy e=>e▸hs y hy,fun x hx=>of_decide_eq_true (List.mem_filter.mp hx).2⟩
section
variable{N k:Nat}{σ:Sto}{Φ:Calls}{n na nb nl nw nk nq ns nf nB nS np cnt:Nat}{T A B F:Tm}{m p a b:Qx}{o:Nat}{bs:List Be}{xs ys:List (Nat×Tm)}
theorem eq_ratV{d:Nat}(q:Rat):eqD (d+2) σ (Gg q) (Gg q)=some true:=by
 have:=Ud (σ:=σ) (d:=d) [q.num,(q.den:Int)] [q.num,(q.den:Int)];rw[decide_eq_true rfl]at this;exact this
theorem eqrows_ok{d:Nat}{H:Tm}:∀{G:Tm},(∀x∈G,Jb H x.1=some x.2)→eqRows (eqD (d+2) σ) (Qy H) (Qy G)=some true
 |[],_=>rfl
 |x::G,h=>by
  show(match(match Ue (Qy H) (mK x.1)with
   |none=>some false
   |some u=>eqD (d+2) σ (Gg x.2) u),eqRows (eqD (d+2) σ) (Qy H) (Qy G)with
   |some x,some y=>some (x&&y)
   |_,_=>none)=_
  rw[eqrows_ok fun y hy=>h y (.tail _ hy),U4,h x (.head _)];show(match eqD (d+2) σ (Gg x.2) (Gg x.2),some true with
   |some x,some y=>some (x&&y)
   |_,_=>none)=_
  rw[eq_ratV];rfl
theorem eqdict_ok{d:Nat}{G H:Tm}(hp:σ[na]?=some (.dict (Qy G)))(hq:σ[nb]?=some (.dict (Qy H)))(okG:Ok G)(okH:Ok H)(h:∀n,co G n=co H n):eqD (d+3) σ (.loc na) (.loc nb)=some true:=by
 by_cases e:na=nb
 ·exact if_pos e
 ·have hlen:G.length=H.length:=by
   have h1:(keys G).length≤(keys H).length:=Uo okG.nodup fun x hx=>(Gi okH).mpr (by rw[←h];exact(Gi okG).mp hx);have h2:(keys H).length≤(keys G).length:=Uo okH.nodup fun x hx=>(Gi okG).mpr (by rw[h];exact(Gi okH).mp hx);rw[len_keys,len_keys]at h1 h2;exact Nat.le_antisymm h1 h2
  rw[eqD_dd hp hq e,if_pos (by rw[rows_len,rows_len];exact hlen)];refine eqrows_ok fun x hx=>?_;have hk:x.1∈keys G:=Qj hx;have e2:co G x.1=x.2:=by unfold co;rw[Y5 okG.nodup (show(x.1,x.2)∈G from hx)];rfl
  rw[co_mem ((Gi okH).mpr (by rw[←h];exact(Gi okG).mp hk)),←h,e2]
theorem eqList_c{f:V→V→Option Bool}{x y:V}{xs ys:List V}{a b:Bool}(h1:f x y=some a)(h2:Y8 f xs ys=some b):Y8 f (x::xs) (y::ys)=some (a&&b):=by
 show(match f x y,Y8 f xs ys with
  |some b,some c=>some (b&&c)
  |_,_=>none)=_
 rw[h1,h2]
theorem eqls_list:∀{xs ys:List (Nat×Tm)},(∀x∈xs,σ[x.1]?=some (.dict (Qy x.2))∧Ok x.2)→(∀x∈ys,σ[x.1]?=some (.dict (Qy x.2))∧Ok x.2)→xs.length=ys.length→(∀(i:Nat) (x y:Nat×Tm),xs[i]?=some x→ys[i]?=some y→∀n,co x.2 n=co y.2 n)→Y8 (eqD 7 σ) (xs.map fun x=>V.loc x.1) (ys.map fun x=>V.loc x.1)=some true
 |[],[],_,_,_,_=>rfl
 |x::xs,y::ys,hx,hy,hl,h=>eqList_c (eqdict_ok (d:=4) (hx x (.head _)).1 (hy y (.head _)).1 (hx x (.head _)).2 (hy y (.head _)).2 (h 0 x y rfl rfl)) (eqls_list (fun z hz=>hx z (.tail _ hz)) (fun z hz=>hy z (.tail _ hz)) (Nat.succ.inj hl) fun i u v hu hv=>h (i+1) u v hu hv)
theorem eqls_ok(X:LsAt xs na σ)(Y:LsAt ys nb σ)(hne:na≠nb)(hl:xs.length=ys.length)(h:∀(i:Nat) (x y:Nat×Tm),xs[i]?=some x→ys[i]?=some y→∀n,co x.2 n=co y.2 n):
 Gy .eq (.loc na) (.loc nb) σ=some true∧Gy .ne (.loc na) (.loc nb) σ=some false:=
 eql_ok X.lst Y.lst hne (r:=true) (fun _=>eqls_list (fun x hx=>⟨X.at_ x hx,X.ok x hx⟩) (fun x hx=>⟨Y.at_ x hx,Y.ok x hx⟩) hl h) (fun hh=>absurd (by rw[Qi,Qi];exact hl) hh)
theorem eqpt_list:∀(ps qs:List (Int×Int)),ps.length=qs.length→Y8 (eqD 7 σ) (ps.map ptV) (qs.map ptV)=some (decide (ps=qs))
 |[],[],_=>rfl
 |p::ps,q::qs,h=>by
  refine(eqList_c (Ud (d:=5) [p.1,p.2] [q.1,q.2]) (eqpt_list ps qs (Nat.succ.inj h))).trans (congrArg some ?_);rw[←Bool.decide_and];exact decide_eq_decide.mpr ⟨fun h=>by rw[h.2,Prod.ext (List.cons.inj h.1).1 (List.cons.inj (List.cons.inj h.1).2).1],fun h=>⟨by rw[(List.cons.inj h).1],(List.cons.inj h).2⟩⟩
theorem eqpts_ok{ps qs:List (Int×Int)}(h1:σ[na]?=some (.list (ps.map ptV)))(h2:σ[nb]?=some (.list (qs.map ptV)))(hne:na≠nb):Gy .eq (.loc na) (.loc nb) σ=some (decide (ps=qs)):=
 (eql_ok h1 h2 hne (fun h=>eqpt_list ps qs (by rwa[Qi,Qi]at h)) (fun h=>decide_eq_false fun e=>h (by rw[e]))).1
theorem Gj.ls(H:Gj o bs nb σ):LsAt (bs.map fun b=>(b.p,b.G)) nb σ:=
 {
  lst:=by rw[List.map_map];exact H.lst
  at_:=fun x hx=>by obtain⟨b,hb,rfl⟩:=Qg hx;exact H.at_ b hb
  ok:=fun x hx=>by obtain⟨b,hb,rfl⟩:=Qg hx;exact H.ok b hb}
end
theorem At.app{o:Nat}{a c b d:Int}{s1 s2 s3 s4:Bool}{fb:List Be}{nb:Nat}{σ:Sto}(A:At o a c b d s1 s2 s3 s4 fb nb σ)(τ:Sto):At o a c b d s1 s2 s3 s4 fb nb (σ++τ):=⟨A.bas.app τ,A.same⟩
noncomputable def Yi(a c b d:Int)(s1 s2 s3 s4:Bool):List (Int×Int):=(if s1 then[(a,b)]else[])++((if s2 then[(a,d)]else[])++((if s3 then[(c,b)]else[])++(if s4 then[(c,d)]else[])))
noncomputable def rp(p:Int×Int):Pt:=((p.1:Rat),(p.2:Rat))
theorem sel_cast(a c b d:Int):∀s1 s2 s3 s4:Bool,sel a c b d s1 s2 s3 s4=(Yi a c b d s1 s2 s3 s4).map rp:=by
 intro s1 s2 s3 s4;cases s1<;>cases s2<;>cases s3<;>cases s4<;>rfl
theorem selZ_nil(o:Nat)(a c b d:Int):∀s1 s2 s3 s4:Bool,Yi a c b d s1 s2 s3 s4=[]→HF o a c b d s1 s2 s3 s4=[gOne]:=by
 intro s1 s2 s3 s4 h;cases s1<;>cases s2<;>cases s3<;>cases s4<;>first|rfl|cases h
theorem selZ_one(o:Nat)(a c b d:Int):∀s1 s2 s3 s4:Bool,(Yi a c b d s1 s2 s3 s4).length=1→∃x y:Int,Yi a c b d s1 s2 s3 s4=[(x,y)]∧HF o a c b d s1 s2 s3 s4=[gY y,gX x]:=by
 intro s1 s2 s3 s4 h;cases s1<;>cases s2<;>cases s3<;>cases s4<;>first|exact⟨_,_,rfl,rfl⟩|cases h
theorem selZ_len(a c b d:Int):∀s1 s2 s3 s4:Bool,(Yi a c b d s1 s2 s3 s4).length≤4:=by
 intro s1 s2 s3 s4;cases s1<;>cases s2<;>cases s3<;>cases s4<;>simp[Yi]
theorem same_leads{gs H:List PG}(h:Zk gs H):gs.map (·.2)=H.map (·.2):=by
 apply List.ext_getElem?;intro i;rw[Qd,Qd];cases hg:gs[i]? with
 |none=>
  rw[List.getElem?_eq_none_iff,h.1,←List.getElem?_eq_none_iff]at hg;rw[hg]
 |some g=>
  have hH:H[i]?=some _:=Qe (h.1▸(Q6 hg).1);rw[hH];exact congrArg some (h.2 i g _ hg hH).2
theorem gOne_eq:mkT (zT [((0,0),1)])=gOne.1:=rfl
theorem gneg(y:Int):((0-y:Int):Rat)= -(y:Rat):=by rw[Int.zero_sub,Rat.intCast_neg]
theorem gY_eq(y:Int):mkT (zT [((0,1),1),((0,0),0-y)])=(gY y).1:=by
 show mkT [((0,1),((1:Int):Rat)),((0,0),((0-y:Int):Rat))]=_;rw[gneg];rfl
theorem gX_eq(x:Int):mkT (zT [((1,0),1),((0,0),0-x)])=(gX x).1:=by
 show mkT [((1,0),((1:Int):Rat)),((0,0),((0-x:Int):Rat))]=_;rw[gneg];rfl
section
variable{N k:Nat}{σ:Sto}{Φ:Calls}{n na nb nl nw nk nq ns nf nB nS np cnt:Nat}{T A B F:Tm}{m p a b:Qx}{o:Nat}{bs:List Be}{xs ys:List (Nat×Tm)}
theorem bas_eq{S:Sto}{fb:List Be}{H:List PG}(B:Gj o fb nb S)(hs:Zk (fb.map gm) H)(Y:LsAt ys nq S)(hne:nb≠nq)(hy:ys.map (·.2)=H.map (·.1)):Gy .eq (.loc nb) (.loc nq) S=some true∧Gy .ne (.loc nb) (.loc nq) S=some false:=by
 have hl:=hs.1;have hl2:=congrArg List.length hy;rw[Qi]at hl;rw[Qi,Qi]at hl2;refine eqls_ok B.ls Y hne (by rw[Qi,hl,hl2]) (fun i x y hx hyy n=>?_);rw[Qd]at hx;refine z12 (Qo hx) fun b hb e=>?_;have hH:H[i]?=some _:=Qe (hl▸(Q6 hb).1);have h2:(ys.map (·.2))[i]?=(H.map (·.1))[i]?:=congrArg (fun l=>l[i]?) hy;rw[Qd,Qd,hyy,hH]at h2;rw[←e];exact((hs.2 i (gm b) _ (by rw[Qd,hb];rfl) hH).1 n).trans (congrFun (congrArg co (Option.some.inj h2)).symm n)
theorem flat0{α β:Type}:∀l:List α,(l.flatMap fun _=>([]:List β))=[]
 |[]=>rfl
 |_::l=>flat0 l
theorem mem2{α:Type}{Q:α→Prop}{x y:α}(h1:Q x)(h2:Q y):∀z∈[x,y],Q z:=fun z hz=>(Q5 hz).elim (fun e=>e▸h1) fun hz=>Q2 hz▸h2
theorem all_in(hN:Big N)(ho:o<3){A1 C1 B1 D1:Int}{s1 s2 s3 s4:Bool}{fs:List Be}{F0:List PF}(FF:Form o (Zp (sel A1 C1 B1 D1 s1 s2 s3 s4)) F0 (HF o A1 C1 B1 D1 s1 s2 s3 s4))(T:Zj o fs nl σ)(hl:fs.length≤100)(hz:∀f∈fs,Zp (sel A1 C1 B1 D1 s1 s2 s3 s4) (co f.G))
 {fb:List Be} (A:At o A1 C1 B1 D1 s1 s2 s3 s4 fb nb σ) (hne:nl≠nb) {fr:AL} (h48:lk fr 48=some (.loc nl)) (h35:∀x,lk (stf (erf fr [2]) 2 x) 35=some (.loc nb)) (h0:∀x,lk (stf (erf fr [2]) 2 x) 0=some (.str o)):
 ∃τ,RE (G0 prog N (k+9)) (.lcomp (.int 1) (.one 2) .plain (.var 48) (.yes (.not (.call 36 (.cons (.var 2) (.cons (.var 35) (.cons (.var 0) .nil))))))) fr σ (.loc (σ++τ).length) (σ++τ++[.list []]):=by
 rw[←flat0 fs];refine RE.al (iv:=fun b:Be=>V.loc b.p) (g:=fun _=>[]) (fun ρ H=>bnI (H 48 _ h48) rfl) T.lst (Nat.le_trans hl (by decide)) (fun _ _=>Nat.zero_le _) fun f hf acc τ ha=>?_;have AS:At o A1 C1 B1 D1 s1 s2 s3 s4 fb nb (σ.set nl (.ro (fs.map fun b=>V.loc b.p))++τ):=⟨(A.bas.lock T.lst hne).app τ,A.same⟩
 refine z23 (member_spec (k:=k) hN ho FF AS (T.elt f hf) (Qw (Jf T.lst (T.at_ f hf)))) fun τ' r g1 g2 g3=>⟨τ++τ',?_⟩
 rw[g2.mpr (hz f hf),Qb]at g1;exact(Qp acc).symm▸RT.skip rfl (RE.three Jq (h35 _) (h0 _) (wE _ (.not (.call 36 (.cons (.var 2) (.cons (.var 35) (.cons (.var 0) .nil))))) [(2,.loc f.p),(35,.loc nb),(0,.str o)] _ g1)) rfl
theorem c_holds(hN:Big N)(ho:o<3){A1 C1 B1 D1:Int}(hg:(A1,C1,B1,D1)∈Uy){s1 s2 s3 s4:Bool}{fs:List Be}(T:Zj o fs nl σ)(hl:fs.length≤100)(hz:∀f∈fs,Zp (sel A1 C1 B1 D1 s1 s2 s3 s4) (co f.G)){F0:List PF}(hgen:Gen F0 (sel A1 C1 B1 D1 s1 s2 s3 s4))
 {fb:List Be} (A:At o A1 C1 B1 D1 s1 s2 s3 s4 fb nb σ) (hne:nl≠nb) (hp:σ[np]?=some (.list ((Yi A1 C1 B1 D1 s1 s2 s3 s4).map ptV))):
 ∃τ,G0 prog N (k+10) 43 [.loc nb,.loc nl,.loc np,.str o] σ=some (.bool true,σ++τ):=by
 have FF:=form_all ho hg s1 s2 s3 s4 hgen;have hlo:Yv (fb.map (·.m)) (sel A1 C1 B1 D1 s1 s2 s3 s4).length:=by
  have h1:=same_leads A.same;rw[List.map_map]at h1;rw[show(fb.map (·.m))=fb.map ((fun x:PG=>x.2)∘gm)from rfl,h1];exact lo_all o _ _ _ _ s1 s2 s3 s4
 have hZl:=selZ_len A1 C1 B1 D1 s1 s2 s3 s4;generalize hZ:Yi A1 C1 B1 D1 s1 s2 s3 s4=Z at hZl hp;rw[sel_cast,Qi,hZ]at hlo;have hZ1:(Z.map ptV).length<1000:=by rw[Qi];exact Nat.lt_of_le_of_lt hZl (by decide)
 refine z11 (c_finite (N:=N) (k:=k+6) ho A.bas) fun τ1 e1=>?_;rw[hlo.1]at e1;refine z33 (c_standard (k:=k+5) hN ho (A.bas.app τ1) hlo) fun τ2 n' l e2 e3 e4=>?_;have hll:l.length<1000:=e4▸Nat.lt_of_le_of_lt hZl (by decide);have ec:(!decide ((l.length:Int)=((Z.map ptV).length:Int)))=false:=by rw[Qi,e4,decide_eq_true rfl];rfl
 let S1:=σ++τ1++τ2;have p1:∃t,S1=σ++t:=Qz ⟨τ1,rfl⟩;have A1':At o A1 C1 B1 D1 s1 s2 s3 s4 fb nb S1:=(A.app τ1).app τ2;have T1:Zj o fs nl S1:=(T.app τ1).app τ2;have hp1:S1[np]?=some (.list (Z.map ptV)):=Qw (Qw hp);have hnb:nb<S1.length:=J5 A1'.bas.lst;let fr:AL:=[(35,.loc nb),(48,.loc nl),(49,.loc np),(0,.str o)]
 have eq0:∀{σ τ:Sto},Gy .eq (.loc (σ++τ).length) (.loc (σ++τ++[Ob.list []]).length) (σ++τ++[Ob.list []]++[Ob.list []])=some true:=fun{σ τ}=>(eqnil_ok (σ:=σ++τ++[Ob.list []]) G1).1.trans (by rw[decide_eq_true rfl]);by_cases h:Z=[]
 ·subst h;have hs:=A.same;rw[selZ_nil o _ _ _ _ _ _ _ _ hZ]at hs;let S2:=S1++[.list []]++[.list [pz ((0,0),1)]];refine z23 (c_poly (N:=N) (k:=k+8) (σ:=S2) (L:=[((0,0),1)]) G1 (by decide) (by decide)) fun τ3 nd f1 f2 f3=>?_;let S3:=S2++τ3++[.list [.loc nd]];have A3:At o A1 C1 B1 D1 s1 s2 s3 s4 fb nb S3:=(((A1'.app _).app _).app _).app _;have T3:Zj o fs nl S3:=(((T1.app _).app _).app _).app _;have hY:LsAt [(nd,mkT (zT [((0,0),1)]))] (S2++τ3).length S3:=
   {lst:=G1,at_:=fun x hx=>Q2 hx▸Qw f2,ok:=fun x hx=>Q2 hx▸ok_mkT (by decide) (by decide)}
  have c2:=(bas_eq A3.bas hs hY (Nat.ne_of_lt (Nat.lt_of_lt_of_le hnb (J7 (Qz (Qz (Qz ⟨[],(Qp S1).symm⟩)))))) (by rw[Q7,Qm,gOne_eq];rfl)).2;refine z11 (all_in (k:=k) hN ho FF T3 hl hz A3 hne (fr:=fr) rfl (fun _=>rfl) fun _=>rfl) fun τ4 g1=>?_;exact z11 (Qz (τ':=[.list []]) (Qz (τ':=[.list []]) (Qz (τ':=τ4) (Qz (τ':=[.list [.loc nd]]) (Qz (τ':=τ3) (Qz (τ':=[.list [pz ((0,0),1)]]) (Qz (τ':=[.list []]) p1))))))) fun t ht=>⟨t,ht▸wF N (k+9) 43 [.loc nb,.loc nl,.loc np,.str o] σ e1 rfl e2 (Jr e3 hll) (Jr hp1 hZ1) ec (eqnil_ok hp1).1 (decide_eq_true rfl) f1 c2 rfl (Jr (Qw (Qw (Qw (Qw hp1)))) hZ1) rfl g1 eq0⟩
 ·have hn:decide (Z.map ptV=[])=false:=decide_eq_false fun e=>h (List.map_eq_nil_iff.mp e);have hp2:(S1++[Ob.list []])[np]?=some (.list (Z.map ptV)):=Qw hp1;by_cases h1:Z.length=1
  ·refine z22 (selZ_one o A1 C1 B1 D1 s1 s2 s3 s4 (hZ▸h1)) fun x y hz' hH=>?_;have hZe:Z=[(x,y)]:=hZ.symm.trans hz';subst hZe;have hs:=A.same;rw[hH]at hs;have n1:(keys (zT [((0,1),1),((0,0),0-y)])).Nodup:=(by decide:([(0,1),(0,0)]:List Qx).Nodup)
   have n2:(keys (zT [((1,0),1),((0,0),0-x)])).Nodup:=(by decide:([(1,0),(0,0)]:List Qx).Nodup)
   refine z23 (c_poly (N:=N) (k:=k+8) (σ:=S1++[.list []]++[.list ([((0,1),1),((0,0),0-y)].map pz)]) (L:=[((0,1),1),((0,0),0-y)]) G1 n1 (by decide:2≤100)) fun τ3 nd f1 f2 f3=>?_;let S2:=S1++[.list []]++[.list ([((0,1),1),((0,0),0-y)].map pz)]++τ3;refine z23 (c_poly (N:=N) (k:=k+8) (σ:=S2++[.list ([((1,0),1),((0,0),0-x)].map pz)]) (L:=[((1,0),1),((0,0),0-x)]) G1 n2 (by decide:2≤100)) fun τ5 ne g1 g2 g3=>?_;let S3:=S2++[.list ([((1,0),1),((0,0),0-x)].map pz)]++τ5;have ps:∃t,S3=S1++t:=Qz (Qz (Qz (Qz ⟨[.list []],rfl⟩)));have A3:At o A1 C1 B1 D1 s1 s2 s3 s4 fb nb (S3++[.list [.loc nd,.loc ne]]):=z11 ps fun t e=>e▸(A1'.app t).app _;have T3:Zj o fs nl (S3++[.list [.loc nd,.loc ne]]):=z11 ps fun t e=>e▸(T1.app t).app _;have hY:LsAt [(nd,mkT (zT [((0,1),1),((0,0),0-y)])),(ne,mkT (zT [((1,0),1),((0,0),0-x)]))] S3.length (S3++[.list [.loc nd,.loc ne]]):=
    {lst:=G1,at_:=mem2 (Qw (Qw (Qw f2))) (Qw g2),ok:=mem2 (ok_mkT n1 (mem2 (show 0<6∧1<6 by decide) (show 0<6∧0<6 by decide))) (ok_mkT n2 (mem2 (show 1<6∧0<6 by decide) (show 0<6∧0<6 by decide)))}
   have c2:=(bas_eq A3.bas hs hY (Nat.ne_of_lt (Nat.lt_of_lt_of_le hnb (J7 ps))) (by rw[Q7,Q7,Qm,gY_eq,gX_eq];rfl)).2;refine z11 (all_in (k:=k) hN ho FF T3 hl hz A3 hne (fr:=[(35,.loc nb),(48,.loc nl),(49,.loc np),(0,.str o),(45,.int x),(46,.int y)]) rfl (fun _=>rfl) fun _=>rfl) fun τ4 g4=>?_;have hs0:Jg (.loc np) (.int 0) (S1++[.list []])=some (ptV (x,y)):=Y0 (j:=0) hp2 rfl (by decide:1≤1000);exact z11 (Qz (τ':=[.list []]) (Qz (τ':=[.list []]) (Qz (τ':=τ4) (Qz (τ':=[.list [.loc nd,.loc ne]]) (z11 ps fun t e=>z11 p1 fun t' e'=>(⟨t'++t,by rw[e,e',Qb]⟩:∃t,S3=σ++t)))))) fun t ht=>⟨t,ht▸wF N (k+9) 43 [.loc nb,.loc nl,.loc np,.str o] σ e1 rfl e2 (Jr e3 hll) (Jr hp1 hZ1) ec (eqnil_ok hp1).1 hn rfl (Jr hp2 hZ1) rfl hs0 f1 g1 c2 rfl g4 eq0⟩
  ·have c1:decide (((Z.map ptV).length:Int)=1)=false:=decide_eq_false fun e=>h1 (by rw[Qi]at e;exact Int.ofNat.inj e);refine z11 (all_in (k:=k) hN ho FF (T1.app [.list []]) hl hz (A1'.app [.list []]) hne (fr:=fr) rfl (fun _=>rfl) fun _=>rfl) fun τ4 g1=>?_;exact z11 (Qz (τ':=[.list []]) (Qz (τ':=[.list []]) (Qz (τ':=τ4) (Qz (τ':=[.list []]) p1)))) fun t ht=>⟨t,ht▸wF N (k+9) 43 [.loc nb,.loc nl,.loc np,.str o] σ e1 rfl e2 (Jr e3 hll) (Jr hp1 hZ1) ec (eqnil_ok hp1).1 hn rfl (Jr hp2 hZ1) c1 g1 eq0⟩
end
noncomputable def zs5:List Int:=[-2,-1,0,1,2]
noncomputable def xs5:List Int:=[-1,0,1,2,3]
noncomputable def newB(o:Nat):Bool:=[0,1,2].all fun f=>xs5.all fun x=>zs5.all fun y=>zs5.all fun v=>eltB o (mkT (zT (newT f x y v)),newM f)
theorem newB_0:newB 0=true:=by decide+kernel
theorem newB_1:newB 1=true:=by decide+kernel
theorem newB_2:newB 2=true:=by decide+kernel
theorem new_elt{o f:Nat}{x y v:Int}(ho:o<3)(hf:f<3)(hx: -1≤x∧x≤3)(hy: -2≤y∧y≤2)(hv: -2≤v∧v≤2):Elt o 4 (mkT (zT (newT f x y v)),newM f):=by
 have hb:newB o=true:=by
  match o,ho with
  |0,_=>exact newB_0
  |1,_=>exact newB_1
  |2,_=>exact newB_2
 have h1:f∈[0,1,2]:=by simp;lia
 have h2:x∈xs5:=by simp[xs5];lia
 have h3:y∈zs5:=by simp[zs5];lia
 have h4:v∈zs5:=by simp[zs5];lia
 exact eltB_ok (Ql (Ql (Ql (Ql hb _ h1) _ h2) _ h3) _ h4)
theorem new_lw{f:Nat}{x y v:Int}(hx:x.natAbs≤9)(hy:y.natAbs≤9)(hv:v.natAbs≤9):Lw ((newT f x y v).filter fun e=>decide (e.2≠0)):=by
 have xy:(x*y).natAbs≤81:=by rw[Int.natAbs_mul];exact Nat.mul_le_mul hx hy
 have vy:(v*y).natAbs≤81:=by rw[Int.natAbs_mul];exact Nat.mul_le_mul hv hy
 have n0:∀{i:Int} {c:Nat},i.natAbs≤c→(0-i).natAbs≤c:=fun{i c} h=>by rw[Int.zero_sub,Int.natAbs_neg];exact h
 have up:∀{i:Int} {a b c:Nat},a≤1→b≤1→i.natAbs≤c→c≤100→a≤1∧b≤1∧i.natAbs≤100:=fun ha hb h h2=>⟨ha,hb,Nat.le_trans h h2⟩
 have q1:(1:Nat)≤1:=Qs 1;have q0:(0:Nat)≤1:=Nat.zero_le 1;have one:∀{a b:Nat},a≤1→b≤1→a≤1∧b≤1∧(1:Int).natAbs≤100:=fun ha hb=>⟨ha,hb,by decide⟩
 have h:∀e∈newT f x y v,e.1.1≤1∧e.1.2≤1∧e.2.natAbs≤100:=by
  match f with
  |0=>exact List.forall_mem_cons.mpr ⟨one q1 q1,List.forall_mem_cons.mpr ⟨up q1 q0 (n0 hy) (by decide),mem2 (up q0 q1 (n0 hx) (by decide)) (up q0 q0 xy (by decide))⟩⟩
  |1=>exact List.forall_mem_cons.mpr ⟨one q1 q0,mem2 (up q0 q1 hv (by decide)) (up q0 q0 (Nat.le_trans (Int.natAbs_sub_le ..) (Nat.add_le_add (n0 hx) vy)) (by decide))⟩
  |f+2=>exact mem2 (one q1 q1) (up q0 q0 (n0 xy) (by decide))
 exact⟨Nat.le_trans (List.length_filter_le _ _) (newT_len f x y v),fun e he=>h e (List.mem_filter.mp he).1⟩
theorem zp_iff{T:Tm}(hn:(keys T).Nodup){pts:List Pt}:Zp pts (co T)↔∀p∈pts,ev T p=0:=
 ⟨fun h=>h.ev fun n=>(cf_co hn n).symm,fun h=>⟨T,fun n=>(cf_co hn n).symm,h⟩⟩
theorem vz_zero(L:ZT)(p:Int×Int):vz L p.1 p.2=0↔ev (zT L) (rp p)=0:=by
 have:=vz_ev L p.1 p.2;show _↔ev (zT L) ((p.1:Rat),(p.2:Rat))=0;rw[←this];exact(Rat.intCast_inj (a:=vz L p.1 p.2) (b:=0)).symm
theorem one_filter{α:Type}(g:α→Bool)(s:Bool)(p:α):(if s=true then[p]else[]).filter g=if(s&&g p)=true then[p]else[]:=by
 cases s with
 |false=>rfl
 |true=>exact List.filter_cons
theorem selZ_filter(a c b d:Int)(s1 s2 s3 s4:Bool)(g:Int×Int→Bool):(Yi a c b d s1 s2 s3 s4).filter g=Yi a c b d (s1&&g (a,b)) (s2&&g (a,d)) (s3&&g (c,b)) (s4&&g (c,d)):=by
 unfold Yi;rw[List.filter_append,List.filter_append,List.filter_append,one_filter,one_filter,one_filter,one_filter]
theorem Z9{s t:Bool}(h:s=true→t=true):(s&&t)=s:=by
 cases s with
 |false=>rfl
 |true=>exact h rfl
theorem in_one{α:Type}{s:Bool}{p:α}(h:s=true):p∈(if s=true then[p]else[]):=by rw[if_pos h];exact .head _
theorem of_one{α:Type}{s:Bool}{p q:α}(h:q∈(if s=true then[p]else[])):q=p:=by
 cases s with
 |false=>exact nomatch h
 |true=>exact Q2 h
theorem of_four{α:Type}{s1 s2 s3 s4:Bool}{p1 p2 p3 p4 q:α}(h:q∈(if s1=true then[p1]else[])++((if s2=true then[p2]else[])++((if s3=true then[p3]else[])++(if s4=true then[p4]else[])))):q∈[p1,p2,p3,p4]:=
 (Qh h).elim (fun h=>of_one h▸ .head _) fun h=>(Qh h).elim (fun h=>of_one h▸ .tail _ (.head _)) fun h=>(Qh h).elim (fun h=>of_one h▸ .tail _ (.tail _ (.head _))) fun h=>of_one h▸ .tail _ (.tail _ (.tail _ (.head _)))
theorem selZ_mask{a c b d:Int}{s1 s2 s3 s4:Bool}{g:Int×Int→Bool}(h:∀p∈Yi a c b d s1 s2 s3 s4,g p=true):(s1&&g (a,b))=s1∧(s2&&g (a,d))=s2∧(s3&&g (c,b))=s3∧(s4&&g (c,d))=s4:=
 ⟨Z9 fun e=>h _ (List.mem_append_left _ (in_one e)),Z9 fun e=>h _ (List.mem_append_right _ (List.mem_append_left _ (in_one e))),Z9 fun e=>h _ (List.mem_append_right _ (List.mem_append_right _ (List.mem_append_left _ (in_one e)))),Z9 fun e=>h _ (List.mem_append_right _ (List.mem_append_right _ (List.mem_append_right _ (in_one e))))⟩
theorem selZ_grid(a c b d:Int)(s1 s2 s3 s4:Bool):∀p∈sel a c b d s1 s2 s3 s4,p∈grid a c b d:=fun p hp=>by
 rw[sel_cast]at hp;refine z12 (Qg hp) fun q hq e=>e▸ ?_;exact Qj (f:=rp) (of_four hq)
theorem grid_b:∀x∈Uy,(-1≤x.1∧x.1≤3)∧(-1≤x.2.1∧x.2.1≤3)∧(-1≤x.2.2.1∧x.2.2.1≤3)∧(-1≤x.2.2.2∧x.2.2.2≤3):=by decide
theorem grid_ne:∀x∈Uy,x.1≠x.2.1∧x.2.2.1≠x.2.2.2:=by decide
theorem selZ_abs{a c b d:Int}(hg:(a,c,b,d)∈Uy)(s1 s2 s3 s4:Bool):∀p∈Yi a c b d s1 s2 s3 s4,p.1.natAbs≤10∧p.2.natAbs≤10:=by
 have nb:∀{x:Int},-1≤x∧x≤3→x.natAbs≤10:=fun h=>by lia
 refine zA4 (grid_b _ hg) fun ha hc hb hd=>?_;have h:∀p∈[(a,b),(a,d),(c,b),(c,d)],p.1.natAbs≤10∧p.2.natAbs≤10:=List.forall_mem_cons.mpr ⟨⟨nb ha,nb hb⟩,List.forall_mem_cons.mpr ⟨⟨nb ha,nb hd⟩,mem2 ⟨nb hc,nb hb⟩ ⟨nb hc,nb hd⟩⟩⟩;exact fun p hp=>h p (of_four hp)
theorem form_xy{o:Nat}(ho:o<3){a c b d:Int}(hg:(a,c,b,d)∈Uy)(s1 s2 s3 s4:Bool):(∃h∈HF o a c b d s1 s2 s3 s4,Gf h.2 (2,0)=true)∧∃h∈HF o a c b d s1 s2 s3 s4,Gf h.2 (0,2)=true:=by
 have hm:∀x1 x2 x3 x4:Bool,(x1,x2,x3,x4)∈masks:=by decide
 have hb:allB o=true:=by
  match o,ho with
  |0,_=>exact allB_0
  |1,_=>exact allB_1
  |2,_=>exact allB_2
 have h2:=Ql (Ql hb _ hg) _ (hm s1 s2 s3 s4);simp only[formB,Qc,List.any_eq_true]at h2;obtain⟨_,_,_,_,_,_,hx,hy⟩:=h2;exact⟨hx,hy⟩
section
variable{N k:Nat}{σ σ':Sto}{Φ:Calls}{n na nb nl nw nk nq ns nf nB nS np cnt:Nat}{T A B F:Tm}{m p a b:Qx}{o:Nat}{bs:List Be}
theorem bas2_eq{fb fb':List Be}{H:List PG}(B:Gj o fb nb σ)(hs:Zk (fb.map gm) H)(B':Gj o fb' nq σ)(hs':Zk (fb'.map gm) H)(hne:nb≠nq):Gy .eq (.loc nb) (.loc nq) σ=some true∧Gy .ne (.loc nb) (.loc nq) σ=some false:=by
 have hl:=hs.1;have hl':=hs'.1;rw[Qi]at hl hl';refine eqls_ok B.ls B'.ls hne (by rw[Qi,Qi,hl,hl']) (fun i x y hx hy n=>?_);rw[Qd]at hx hy;refine z12 (Qo hx) fun b hb e=>z12 (Qo hy) fun b' hb' e'=>e▸e'▸ ?_;have hH:H[i]?=some _:=Qe (hl▸(Q6 hb).1);exact((hs.2 i (gm b) _ (by rw[Qd,hb];rfl) hH).1 n).trans ((hs'.2 i (gm b') _ (by rw[Qd,hb'];rfl) hH).1 n).symm
theorem Gj.kp{X:List Nat}(H:Gj o bs nb σ)(K:Kp X σ σ')(hX:∀x∈X,∃l,σ[x]?=some (.list l))(hn:nb∉X):Gj o bs nb σ':=
 {H with lst:=K _ _ hn H.lst,at_:=fun b hb=>K _ _ (fun hx=>z11 (hX _ hx) fun l e=>ld_ne e (H.at_ b hb) rfl) (H.at_ b hb)}
theorem Zj.kp{X:List Nat}(H:Zj o bs nb σ)(K:Kp X σ σ')(hX:∀x∈X,∃l,σ[x]?=some (.list l))(hn:nb∉X):Zj o bs nb σ':=
 ⟨K _ _ hn H.lst,fun b hb=>K _ _ (fun hx=>z11 (hX _ hx) fun l e=>ld_ne e (H.at_ b hb) rfl) (H.at_ b hb),H.elt⟩
theorem At.kp{a c b d:Int}{s1 s2 s3 s4:Bool}{fb:List Be}{X:List Nat}(H:At o a c b d s1 s2 s3 s4 fb nb σ)(K:Kp X σ σ')(hX:∀x∈X,∃l,σ[x]?=some (.list l))(hn:nb∉X):At o a c b d s1 s2 s3 s4 fb nb σ':=⟨H.bas.kp K hX hn,H.same⟩
theorem bas_elt{a c b d:Int}{s1 s2 s3 s4:Bool}{F0:List PF}(F:Form o (Zp (sel a c b d s1 s2 s3 s4)) F0 (HF o a c b d s1 s2 s3 s4)){fb:List Be}(A:At o a c b d s1 s2 s3 s4 fb nb σ):(∀x∈fb,Elt o 4 (x.G,x.m))∧(∀x∈fb,Zp (sel a c b d s1 s2 s3 s4) (co x.G))∧fb.length≤3∧(∀h∈HF o a c b d s1 s2 s3 s4,∃x∈fb,x.m=h.2):=by
 refine⟨fun x hx=>?_,fun x hx=>?_,?_,fun h hh=>?_⟩
 ·refine z13 (same_elts A.same (gm x) (Qj hx)) fun h hh hc hl=>?_;exact(F.elt h hh).of_same ⟨A.bas.ok x hx,A.bas.szG x hx,A.bas.ld x hx,A.bas.one x hx⟩ hc hl
 ·refine z13 (same_elts A.same (gm x) (Qj hx)) fun h hh hc hl=>?_;have:co x.G=co h.1:=funext hc;rw[this];exact F.z h hh
 ·have:=A.same.1;rw[Qi]at this;rw[this];exact F.len
 ·refine z13 (same_elts' A.same h hh) fun g hg _ hl=>?_;obtain⟨x,hx,rfl⟩:=Qg hg;exact⟨x,hx,hl⟩
theorem slicel{xs:List V}{lo hi:Option V}{a b:Nat}(h:σ[n]?=some (.list xs))(hl:xs.length<lim)(h1:bnd xs.length 0 lo=some a)(h2:bnd xs.length xs.length hi=some b):Jc (.loc n) lo hi σ=some (.loc σ.length,σ++[.list ((xs.take b).drop a)]):=by
 unfold Jc;dsimp only;rw[h];dsimp only;rw[if_pos hl,h1,h2]
theorem slicel_to{xs:List V}{t:Nat}(h:σ[n]?=some (.list xs))(hl:xs.length≤1000)(ht:t≤1000):Jc (.loc n) none (some (.int (t:Int))) σ=some (.loc σ.length,σ++[.list (xs.take t)]):=by
 rw[slicel h (Uw (Nat.le_trans hl (by decide))) rfl (bnd_ok ht),List.drop_zero,←List.take_eq_take_min]
theorem slicel_from{xs:List V}{t:Nat}(h:σ[n]?=some (.list xs))(hl:xs.length≤1000)(ht:t≤1000)(hx:t≤xs.length):Jc (.loc n) (some (.int (t:Int))) none σ=some (.loc σ.length,σ++[.list (xs.drop t)]):=by
 rw[slicel h (Uw (Nat.le_trans hl (by decide))) (bnd_ok ht) rfl,List.take_length,Nat.min_eq_left hx]
theorem sub2_ok{u v:V}{r:Nat}(h:r<2):Jg (.tup [u,v]) (.int (r:Int)) σ=some (if r=0 then u else v):=by
 match r,h with
 |0,_=>exact sub_0
 |1,_=>exact sub_1
theorem neb_ok{x y:Bool}:Gy .ne (.bool x) (.bool y) σ=some (!decide (x=y)):=rfl
noncomputable def rC:Ex:=.cmp .eq (.call 42 (.cons (.var 53) (.cons (.sub (.var 2) (.int 0)) (.cons (.sub (.var 2) (.int 1)) .nil)))) (.int 0)
theorem rest_loop{L:ZT}{ps:List (Int×Int)}(hp:σ[np]?=some (.list (ps.map ptV)))(hl:ps.length≤100)(hd:σ[nf]?=some (.dict (Qy (zT L))))(hL:Lw L)(ha:∀p∈ps,p.1.natAbs≤10∧p.2.natAbs≤10){fr:AL}(h49:lk fr 49=some (.loc np))(h53:∀x,lk (stf (erf fr [2]) 2 x) 53=some (.loc nf)):
 ∃τ,RE (G0 prog N (k+1)) (.lcomp (.var 2) (.one 2) .plain (.var 49) (.yes rC)) fr σ (.loc (σ++τ).length) (σ++τ++[.list ((ps.filter fun p=>decide (vz L p.1 p.2=0)).map ptV)]):=by
 rw[←flat_filter];refine RE.al (fun ρ H=>bnI (H 49 _ h49) rfl) hp (Nat.le_trans hl (by decide)) (fun _ _=>cond_len) fun p hpm acc τ hacc=>?_;refine z11 (c_value (N:=N) (k:=k) (σ:=σ.set np (.ro (ps.map ptV))++τ) (Qw (Jf hp hd)) hL (ha p hpm).1 (ha p hpm).2) fun τ' e1=>⟨τ++τ',?_⟩
 rw[Qb]at e1;have c:=RE.two Jq (h53 _) (wE (G0 prog N (k+1)) rC [(2,ptV p),(53,.loc nf)] _ sub_0 sub_1 e1);cases h0:decide (vz L p.1 p.2=0)with
 |true=>exact RT.yes rfl c h0 (fun ρ H=>bnI (H 2 _ Jq) rfl) (Yw hacc)
 |false=>exact(Qp acc).symm▸RT.skip rfl c h0
end
structure LS(o:Nat)(a c b d:Int)(nB nS nL cnt:Nat)(zs:List Int)(fs:List Be)(s1 s2 s3 s4:Bool)(fb:List Be)(nb np:Nat)(σ:Sto):Prop where
 box:Box nB nS cnt zs σ
 told:Zj o fs nL σ
 at_:At o a c b d s1 s2 s3 s4 fb nb σ
 pts:σ[np]?=some (.list ((Yi a c b d s1 s2 s3 s4).map ptV))
 z:∀f∈fs,Zp (sel a c b d s1 s2 s3 s4) (co f.G)
 gen:Gen (fs.map fun f=>co f.G) (sel a c b d s1 s2 s3 s4)
 x2:∃f∈fs,Gf f.m (2,0)=true
 y2:∃f∈fs,Gf f.m (0,2)=true
 lX:nL∉[nB,nS]
 bX:nb∉[nB,nS]
 pX:np∉[nB,nS]
 bL:nb≠nL
 pL:np≠nL
noncomputable def wL(o:Nat)(a c b d:Int)(nB nL nb np:Nat):AL:=[(41,.loc nB),(3,.int a),(54,.int c),(4,.int b),(55,.int d),(0,.str o),(48,.loc nL),(35,.loc nb),(49,.loc np)]
noncomputable def lN:List Nat:=[41,3,54,4,55,0,48,35,49]
theorem ne_ge{a m x:Nat}(h:a<m)(h2:m≤x):a≠x:=Nat.ne_of_lt (Nat.lt_of_lt_of_le h h2)
theorem nin2{a b m x:Nat}(ha:a<m)(hb:b<m)(h:m≤x):x∉[a,b]:=fun hx=>(Q5 hx).elim (fun e=>ne_ge ha h e.symm) fun hx=>ne_ge hb h (Q2 hx).symm
theorem ab9{x:Int}(h: -2≤x∧x≤3):x.natAbs≤9:=by omega
theorem five{r:Nat}(h:r<5): -2≤(r:Int)-2∧(r:Int)-2≤2:=by omega
theorem pts_law{A:List (Int×Int)}{g:Int×Int→Bool}{G:Tm}(hn:(keys G).Nodup)(hz:∀p,ev G (rp p)=0↔g p=true):(Zp (A.map rp) (co G)↔A.filter g=A)∧(∀p∈(A.filter g).map rp,p∈A.map rp)∧Zp ((A.filter g).map rp) (co G)∧∀p∈A.map rp,ev G p=0→p∈(A.filter g).map rp:=
 ⟨⟨fun h=>List.filter_eq_self.mpr fun p hp=>(hz p).mp ((zp_iff hn).mp h _ (Qj hp)),fun h=>(zp_iff hn).mpr fun p hp=>z12 (Qg hp) fun q hq e=>e▸(hz q).mpr (List.filter_eq_self.mp h q hq)⟩,
  fun p hp=>z12 (Qg hp) fun q hq e=>e▸Qj (List.mem_filter.mp hq).1,
  (zp_iff hn).mpr fun p hp=>z12 (Qg hp) fun q hq e=>e▸(hz q).mpr (List.mem_filter.mp hq).2,
  fun p hp h0=>z12 (Qg hp) fun q hq e=>e▸Qj (List.mem_filter.mpr ⟨hq,(hz q).mp (e▸h0)⟩)⟩
section
variable{N k:Nat}{σ σ':Sto}{Φ:Calls}{n na nb nl nw nk nq ns nf nB nS nL np cnt:Nat}{T A B F:Tm}{m p:Qx}{o:Nat}{bs fs fb:List Be}{a c b d:Int}{zs:List Int}{s1 s2 s3 s4:Bool}{ρ:Fr}
theorem told_rp(hN:Big N)(ho:o<3)(hg:(a,c,b,d)∈Uy){F0:List PF}(hgen:Gen F0 (sel a c b d s1 s2 s3 s4))(T:Zj o fs nl σ)(hz:∀f∈fs,Zp (sel a c b d s1 s2 s3 s4) (co f.G))(A:At o a c b d s1 s2 s3 s4 fb nb σ):∀g∈fs.map fun f=>co f.G,Sp (fb.map fun x=>co x.G) g:=fun g hg'=>z12 (Qg hg') fun f hf e=>e▸by
 refine z23 (member_spec (k:=0) hN ho (form_all ho hg s1 s2 s3 s4 hgen) A (T.elt f hf) (T.at_ f hf)) fun _ r _ h2 h3=>?_;exact rp_sp (h3 (h2.mpr (hz f hf))) fun g hg'=>z12 (Qg hg') fun x hx e=>e▸Sp.one (Qj (f:=fun x:Be=>co x.G) hx)
theorem kp_lists(H:Box nB nS cnt zs σ):∀x∈[nB,nS],∃l,σ[x]?=some (.list l):=mem2 ⟨_,H.b⟩ ⟨_,H.s⟩
theorem Box.app{τ:Sto}(H:Box nB nS cnt zs σ):Box nB nS cnt zs (σ++τ):=⟨Qw H.b,Qw H.s,H.ne,H.len⟩
theorem Box.set{ob:Ob}(H:Box nB nS cnt zs σ)(h:n∉[nB,nS]):Box nB nS cnt zs (σ.set n ob):=⟨Gr H.b fun e=>h (e▸ .head _),Gr H.s fun e=>h (e▸ .tail _ (.head _)),H.ne,H.len⟩
theorem Gj.set{xs:List V}{ob:Ob}(H:Gj o bs nb σ)(h:σ[n]?=some (.list xs))(hne:n≠nb):Gj o bs nb (σ.set n ob):=
 {H with lst:=Gr H.lst hne,at_:=fun b hb=>G8 h (H.at_ b hb)}
theorem pick2{P:Int→Prop}{x y:Int}{r:Nat}(h:r<2)(hx:P x)(hy:P y):∃z,Jg (.tup [.int x,.int y]) (.int (r:Int)) σ=some (.int z)∧P z:=by
 match r,h with
 |0,_=>exact⟨x,sub_0,hx⟩
 |1,_=>exact⟨y,sub_1,hy⟩
set_option maxHeartbeats 4000000 in
theorem law_turn(hN:Big N)(ho:o<3)(hg:(a,c,b,d)∈Uy){v:V}(H:LS o a c b d nB nS nL cnt zs fs s1 s2 s3 s4 fb nb np σ)(hl:fs.length≤3)(hc:cnt≤800){Q:Prop}
 (K:∀{σ':Sto} {zs':List Int} {x:Be} {t1 t2 t3 t4:Bool} {fb':List Be} {nb' np':Nat} {fr':AL},LS o a c b d nB nS nL (cnt+4) zs' (fs++[x]) t1 t2 t3 t4 fb' nb' np' σ'→sl fr' lN=wL o a c b d nB nL nb' np'→QB (G0 prog N (k+11)) N (bo 44 [12]) (stf (wL o a c b d nB nL nb np) 51 v) σ .next fr' σ'→Q):Q:=by
 have hcc:∀i,i≤100→cnt+i≤900:=fun i hi=>Nat.add_le_add hc hi;have hgne:=grid_ne _ hg;have hac:(a:Rat)≠(c:Rat):=fun e=>hgne.1 (Rat.intCast_inj.mp e);have hbd:(b:Rat)≠(d:Rat):=fun e=>hgne.2 (Rat.intCast_inj.mp e);refine zA4 (grid_b _ hg) fun ha hc' _ _=>?_;refine z34 (Uz (N:=N) (k:=k+10) (j:=3) H.box (by decide) (hcc 0 (Nat.zero_le _))) fun r1 S1 zs1 e1 l1 B1 K1=>?_;refine z34 (Uz (N:=N) (k:=k+10) (j:=2) B1 (by decide) (hcc 1 (by decide))) fun r2 S2 zs2 e2 l2 B2 K2=>?_;refine z12 (pick2 (σ:=S2) (P:=fun x=> -1≤x∧x≤3) l2 ha hc') fun x e2' hx=>?_;refine z34 (Uz (N:=N) (k:=k+10) (j:=5) B2 (by decide) (hcc 2 (by decide))) fun r3 S3 zs3 e3 l3 B3 K3=>?_;refine z34 (Uz (N:=N) (k:=k+10) (j:=5) B3 (by decide) (hcc 3 (by decide))) fun r4 S4 zs4 e4 l4 B4 K4=>?_;have hy:=five l3;have hv:=five l4;have w9:∀{x:Int},-2≤x∧x≤2→x.natAbs≤9:=fun h=>ab9 ⟨h.1,Int.le_trans h.2 (by decide)⟩;have x9:x.natAbs≤9:=ab9 ⟨Int.le_trans (by decide) hx.1,hx.2⟩;have t9:∀{n:Nat},n≤9→n≤100:=fun h=>Nat.le_trans h (by decide);refine z23 (c_new (N:=N) (k:=k+9) (σ:=S4) (f:=r1) (t9 x9) (t9 (w9 hy)) (t9 (w9 hv))) fun τ5 nd e5 d5 g5=>?_;let S5:=S4++τ5;let L:=(newT r1 x ((r3:Int)-2) ((r4:Int)-2)).filter fun e=>decide (e.2≠0);have hGn:(keys (zT L)).Nodup:=mkT_zT _▸keys_mkT (newT_nodup r1 x _ _);have elx:Elt o 4 (zT L,newM r1):=mkT_zT _▸new_elt ho l1 hx hy hv;have hLw:Lw L:=new_lw x9 (w9 hy) (w9 hv);have d5:S5[nd]?=some (.dict (Qy (zT L))):=mkT_zT _▸d5;let mx:Be:=⟨nd,zT L,newM r1⟩
 have hXB:=kp_lists H.box;have hK5:Kp [nB,nS] σ S5:=(((K1.trans K2).trans K3).trans K4).app;have A5:=H.at_.kp hK5 hXB H.bX;have T5:=H.told.kp hK5 hXB H.lX;have P5:=hK5 _ _ H.pX H.pts;have B5:Box nB nS (cnt+4) zs4 S5:=B4.app;let g:Int×Int→Bool:=fun p=>decide (vz L p.1 p.2=0);have hfil:=selZ_filter a c b d s1 s2 s3 s4 g;refine z11 (rest_loop (N:=N) (k:=k+10) (σ:=S5) (L:=L) (fr:=[(41,.loc nB),(3,.int a),(54,.int c),(4,.int b),(55,.int d),(0,.str o),(48,.loc nL),(35,.loc nb),(49,.loc np),(51,v),(44,.int (r1:Int)),(45,.int x),(46,.int ((r3:Int)-2)),(53,.loc nd)]) P5 (Nat.le_trans (selZ_len a c b d s1 s2 s3 s4) (by decide)) d5 hLw (selZ_abs hg s1 s2 s3 s4) rfl fun _=>rfl) fun τ6 e6=>?_;have hp:=pts_law (A:=Yi a c b d s1 s2 s3 s4) (g:=g) hGn fun p=>(vz_zero L p).symm.trans decide_eq_true_iff.symm;have hmask:=selZ_mask (a:=a) (c:=c) (b:=b) (d:=d) (s1:=s1) (s2:=s2) (s3:=s3) (s4:=s4) (g:=g);have hself:=List.filter_eq_self (l:=Yi a c b d s1 s2 s3 s4) (p:=g);change RE _ _ _ _ _ (S5++τ6++[.list (((Yi a c b d s1 s2 s3 s4).filter g).map ptV)])at e6;rw[hfil]at e6 hp hself;rw[←sel_cast,←sel_cast]at hp;generalize (s1&&g (a,b))=t1,(s2&&g (a,d))=t2,(s3&&g (c,b))=t3,(s4&&g (c,d))=t4 at e6 hp hself hmask;clear hfil;refine zA4 hp fun hall hsub hzx hnew=>?_;let nr:=(S5++τ6).length;let S6:=S5++τ6++[.list ((Yi a c b d t1 t2 t3 t4).map ptV)];have R6:S6[nr]?=some (.list ((Yi a c b d t1 t2 t3 t4).map ptV)):=G1;have A6:At o a c b d s1 s2 s3 s4 fb nb S6:=(A5.app τ6).app _;have P6:S6[np]?=some (.list ((Yi a c b d s1 s2 s3 s4).map ptV)):=Qw (Qw P5);have hpr:np≠nr:=ne_ge (J5 P5) (J7 ⟨τ6,rfl⟩);have FF:=form_all ho hg s1 s2 s3 s4 H.gen;refine z23 (member_spec (k:=k+2) hN ho FF A6 (f:=(zT L,newM r1)) elx (Qw (Qw d5))) fun τ7 r e7 m7 _=>?_;let S7:=S6++τ7;have hr:r=decide (Yi a c b d t1 t2 t3 t4=Yi a c b d s1 s2 s3 s4):=Bool.eq_iff_iff.mpr ((m7.trans hall).trans decide_eq_true_iff.symm);have hne:(!decide (r=decide (Yi a c b d t1 t2 t3 t4=Yi a c b d s1 s2 s3 s4)))=false:=by rw[decide_eq_true hr];rfl
 have BE:=bas_elt FF A6;let S8:=S7++[.list [.loc nd]];let S9:=S8++[.list ((fb.map fun b=>V.loc b.p)++[.loc nd])];have A8:At o a c b d s1 s2 s3 s4 fb nb S8:=(A6.app τ7).app _;have D6:S6[nd]?=some (.dict (Qy (zT L))):=Qw (Qw d5);have T9:Zj o (fb++[mx]) S8.length S9:=⟨by rw[Qr];exact G1,Ys (fun b' hb'=>Qw (A8.bas.at_ b' hb')) (Qw (Qw (Qw D6))),Ys BE.1 elx⟩
 have gs:∀{F:List PF},Gen F (sel a c b d s1 s2 s3 s4)→Gen (F++[co (zT L)]) (sel a c b d t1 t2 t3 t4):=fun h=>(funext fun n=>cf_co hGn n:cf (zT L)=co (zT L))▸gen_step hac hbd (selZ_grid a c b d s1 s2 s3 s4) h hnew;have hgen2:Gen ((fb++[mx]).map fun f=>co f.G) (sel a c b d t1 t2 t3 t4):=by
  rw[Qr];exact gs (H.gen.trans (told_rp hN ho hg H.gen T5 H.z A5))
 have hxy:=form_xy ho hg s1 s2 s3 s4;have hlead:∀{q},(∃h∈HF o a c b d s1 s2 s3 s4,Gf h.2 q=true)→∃f∈fb++[mx],Gf f.m q=true:=fun h=>z12 h fun h hh hd=>z12 (BE.2.2.2 h hh) fun x' hx' e=>⟨x',List.mem_append_left _ hx',e▸hd⟩
 have hl4:∀{l:List Be},l.length≤3→(l++[mx]).length≤4:=fun h=>by rw[Q8];exact Nat.add_le_add_right h 1
 refine z34 (basis_spec (k:=k) hN ho T9 (hl4 BE.2.2.1) hg t1 t2 t3 t4 (Ys (fun f hf=>(BE.2.1 f hf).sub hsub) hzx) (hlead hxy.1) (hlead hxy.2) hgen2) fun τ10 nb' fb' e10 Bn Sn gn=>?_;have hadd:Jx .add (.loc nb) (.loc S7.length) S8=some (.loc S8.length,S9):=addl_ok A8.bas.lst G1 (Uw (by rw[Qi];exact Nat.le_trans (Nat.add_le_add_right BE.2.2.1 1) (by decide)));let S10:=S9++τ10;have p9:∃τ,S9=S5++τ:=Qz (Qz (Qz (Qz ⟨τ6,rfl⟩)));have g5':S5.length≤nb':=Nat.le_trans (J7 p9) gn;refine z11 (Qz (τ':=τ10) p9) fun τ' (hS10:S10=_)=>?_;have T10:Zj o fs nL S10:=hS10▸T5.app τ';let S11:=S10.set nL (.list ((fs.map fun b=>V.loc b.p)++[.loc nd]));have hnL:nL≠nb':=ne_ge (J5 T5.lst) g5';have hLr:nL≠nr:=ne_ge (J5 T5.lst) (J7 ⟨τ6,rfl⟩);have A11:At o a c b d s1 s2 s3 s4 fb nb S11:=⟨((((A8.bas.app _).app τ10)).set T10.lst H.bL.symm),A6.same⟩
 have An:At o a c b d t1 t2 t3 t4 fb' nb' S11:=⟨Bn.set T10.lst hnL,Sn⟩
 have T11:Zj o (fs++[mx]) nL S11:=⟨by rw[Qr];exact G7 T10.lst,Ys (fun b' hb'=>G8 T10.lst (T10.at_ b' hb')) (G8 T10.lst (Qw (Qw (Qw (Qw D6))))),Ys T10.elt elx⟩
 have P11:S11[np]?=some (.list ((Yi a c b d s1 s2 s3 s4).map ptV)):=Gr (Qw (Qw (Qw (Qw P6)))) H.pL.symm;have R11:S11[nr]?=some (.list ((Yi a c b d t1 t2 t3 t4).map ptV)):=Gr (Qw (Qw (Qw (Qw R6)))) hLr;have hz3:∀f∈fs++[mx],Zp (sel a c b d t1 t2 t3 t4) (co f.G):=Ys (fun f hf=>(H.z f hf).sub hsub) hzx;have hgen3:Gen ((fs++[mx]).map fun f=>co f.G) (sel a c b d t1 t2 t3 t4):=by
  rw[Qr];exact gs H.gen
 refine z11 (c_holds (k:=k+1) (np:=nr) hN ho hg T11 (Nat.le_trans (hl4 hl) (by decide)) hz3 hgen3 An hnL R11) fun τ12 e12=>?_;have lB5:nB<S5.length:=J5 B5.b;have lS5:nS<S5.length:=J5 B5.s;have hrX:S5.length≤nr:=J7 ⟨τ6,rfl⟩;have happ:=Ye (x:=V.loc nd) T10.lst (by rw[Qi];exact Nat.lt_of_le_of_lt hl (by decide));have heq:=eqpts_ok (Qw (τ:=τ7) R6) (Qw P6) hpr.symm;have heq2:=eqpts_ok (Qw (τ:=τ12) R11) (Qw P11) hpr.symm;refine K (σ':=S11++τ12) (zs':=zs4) (x:=mx) (t1:=t1) (t2:=t2) (t3:=t3) (t4:=t4) (fb':=fb') (nb':=nb') (np':=nr) (fr':=[(41,.loc nB),(3,.int a),(54,.int c),(4,.int b),(55,.int d),(0,.str o),(48,.loc nL),(35,.loc nb'),(49,.loc nr),(51,v),(44,.int (r1:Int)),(45,.int x),(46,.int ((r3:Int)-2)),(53,.loc nd),(23,.loc nr),(52,.loc nb')])
  ⟨((hS10▸B5.app (τ:=τ'):Box nB nS (cnt+4) zs4 S10).set H.lX).app,T11.app τ12,An.app τ12,Qw R11,hz3,hgen3,z12 H.x2 fun f hf h=>⟨f,List.mem_append_left _ hf,h⟩,z12 H.y2 fun f hf h=>⟨f,List.mem_append_left _ hf,h⟩,H.lX,nin2 lB5 lS5 g5',nin2 lB5 lS5 hrX,hnL.symm,hLr.symm⟩ rfl ?_
 cases hq:decide (Yi a c b d t1 t2 t3 t4=Yi a c b d s1 s2 s3 s4)with
 |false=>exact wB (G0 prog N (k+11)) N (bo 44 [12]) (stf (wL o a c b d nB nL nb np) 51 v) σ e1 e2 e2' e3 e4 e5 e6 e7 heq neb_ok hne hadd e10 rfl happ e12 rfl heq2 hq rfl
 |true=>
  have hs:Zk (fb.map gm) (HF o a c b d t1 t2 t3 t4):=zA4 (hmask (hself.mp (of_decide_eq_true hq))) fun q1 q2 q3 q4=>q1.symm▸q2.symm▸q3.symm▸q4.symm▸H.at_.same;exact wB (G0 prog N (k+11)) N (bo 44 [12]) (stf (wL o a c b d nB nL nb np) 51 v) σ e1 e2 e2' e3 e4 e5 e6 e7 heq neb_ok hne hadd e10 rfl happ e12 rfl heq2 hq (bas2_eq (An.bas.app τ12) Sn (A11.bas.app τ12) hs (ne_ge (J5 A5.bas.lst) g5').symm).2 rfl
end
noncomputable def gridE:Ex:=.lcomp2 (.tup (.cons (.var 45) (.cons (.var 46) .nil))) 45 .plain (.tup (.cons (.var 3) (.cons (.var 54) .nil))) 46 .plain (.tup (.cons (.var 4) (.cons (.var 55) .nil)))
theorem neg2(a c:Int):((0-a-c:Int):Rat)= -((a:Rat)+c):=by rw[Int.zero_sub,Int.sub_eq_add_neg,←Int.neg_add,Rat.intCast_neg,Rat.intCast_add]
theorem p1_zT(a c:Int):mkT (zT [((2,0),1),((1,0),0-a-c),((0,0),a*c)])=(gP1 a c).1:=by
 show mkT [((2,0),((1:Int):Rat)),((1,0),((0-a-c:Int):Rat)),((0,0),((a*c:Int):Rat))]=_;rw[neg2,Rat.intCast_mul];rfl
theorem p2_zT(b d:Int):mkT (zT [((0,2),1),((0,1),0-b-d),((0,0),b*d)])=(gP2 b d).1:=by
 show mkT [((0,2),((1:Int):Rat)),((0,1),((0-b-d:Int):Rat)),((0,0),((b*d:Int):Rat))]=_;rw[neg2,Rat.intCast_mul];rfl
noncomputable def gridB:Bool:=(List.range 3).all fun r1=>(List.range 2).all fun r2=>(List.range 3).all fun r3=>(List.range 2).all fun r4=>Uy.contains ((r1:Int)-1,(r1:Int)-1+1+(r2:Int),(r3:Int)-1,(r3:Int)-1+1+(r4:Int))
theorem gridB_ok:gridB=true:=by decide+kernel
theorem grid_mem{r1 r2 r3 r4:Nat}(h1:r1<3)(h2:r2<2)(h3:r3<3)(h4:r4<2):((r1:Int)-1,(r1:Int)-1+1+(r2:Int),(r3:Int)-1,(r3:Int)-1+1+(r4:Int))∈Uy:=
 have al:∀{n r:Nat} {f:Nat→Bool},(List.range n).all f=true→r<n→f r=true:=fun h hr=>Ql h _ (List.mem_range.mpr hr)
 List.contains_iff_mem.mp (al (al (al (al gridB_ok h1) h2) h3) h4)
section
variable{N k:Nat}{σ σ':Sto}{Φ:Calls}{n na nb nl nw nk nq ns nf nB nS nL np cnt:Nat}{T A B F:Tm}{m p:Qx}{o:Nat}{bs fs fb:List Be}{a c b d:Int}{zs:List Int}{s1 s2 s3 s4:Bool}{ρ:Fr}
theorem grid_turn{X:Int}{acc:List V}(h1:acc.length<lim)(h2:(acc++[ptV (X,b)]).length<lim)(H:Has ρ [(3,.int a),(54,.int c),(4,.int b),(55,.int d)]):l2T Φ (.tup (.cons (.var 45) (.cons (.var 46) .nil))) 45 46 .plain (.tup (.cons (.var 4) (.cons (.var 55) .nil))) ρ (.int X) acc σ=some (acc++[ptV (X,b)]++[ptV (X,d)],σ):=
 have H1:=(H.erf [45,46]).upd 45 (.int X)
 bnI (wE Φ (.tup (.cons (.var 4) (.cons (.var 55) .nil))) [(3,.int a),(54,.int c),(4,.int b),(55,.int d),(45,.int X)] σ _ H1) (bnI rfl (Js rfl (bnI (wE Φ (.tup (.cons (.var 45) (.cons (.var 46) .nil))) [(3,.int a),(54,.int c),(4,.int b),(55,.int d),(45,.int X),(46,.int b)] σ _ (H1.upd 46 _)) (if_pos h1)) (Js rfl (bnI (wE Φ (.tup (.cons (.var 45) (.cons (.var 46) .nil))) [(3,.int a),(54,.int c),(4,.int b),(55,.int d),(45,.int X),(46,.int d)] σ _ (H1.upd 46 _)) (if_pos h2)) (Ug rfl rfl))))
theorem RE.sl{e:Ex}{fr:AL}{v:V}(xs:List Nat)(h:RE Φ e (sl fr xs) σ v σ'):RE Φ e fr σ v σ':=fun ρ H=>h ρ (H.sl xs)
theorem grid_ok:RE Φ gridE [(3,.int a),(54,.int c),(4,.int b),(55,.int d)] σ (.loc σ.length) (σ++[.list ((Yi a c b d true true true true).map ptV)]):=
 have h:∀{l:List V},l.length.ble 5000=true→l.length<lim:=fun h=>Uw (Nat.le_of_ble_eq_true h)
 RE.ld (wE Φ (.tup (.cons (.var 3) (.cons (.var 54) .nil))) [(3,.int a),(54,.int c),(4,.int b),(55,.int d)] σ) rfl fun ρ H=>Js rfl (grid_turn (h rfl) (h rfl) H) (Js rfl (grid_turn (h rfl) (h rfl) H) (Ug rfl rfl))
theorem sub3_ok{o:Nat}(h:o<3):Jg (.tup [.str 0,.str 1,.str 2]) (.int (o:Int)) σ=some (.str o):=by
 match o,h with
 |0,_|1,_|2,_=>rfl
theorem law_loop(hN:Big N)(ho:o<3)(hg:(a,c,b,d)∈Uy){X:List V}{Q:Prop}:∀(items:List V) {cnt:Nat} {zs:List Int} {fs:List Be} {s1 s2 s3 s4:Bool} {fb:List Be} {nb np:Nat} {σ:Sto},LS o a c b d nB nS nL cnt zs fs s1 s2 s3 s4 fb nb np σ→fs.length+items.length≤4→cnt≤100*fs.length→
 (∀{σ':Sto} {cnt':Nat} {zs':List Int} {fs':List Be} {t1 t2 t3 t4:Bool} {fb':List Be} {nb' np':Nat},LS o a c b d nB nS nL cnt' zs' fs' t1 t2 t3 t4 fb' nb' np' σ'→fs'.length≤4→cnt'≤100*fs'.length→RF (G0 prog N (k+11)) N ⟨X,none,none⟩ (.one 51) (bo 44 [12]) items (wL o a c b d nB nL nb np) σ .next (wL o a c b d nB nL nb' np') σ'→Q)→Q
 |[],_,_,_,_,_,_,_,_,_,_,_,H,hl,hc,K=>K H hl hc (RF.nil rfl rfl)
 |v::items,_,_,fs,_,_,_,_,_,_,_,_,H,hl,hc,K=>
  have hl3:fs.length≤3:=Nat.le_of_succ_le_succ (Nat.le_trans (Nat.add_le_add_left (Nat.le_add_left 1 items.length) _) hl)
  law_turn (k:=k) hN ho hg (v:=v) H hl3 (Nat.le_trans hc (Nat.le_trans (Nat.mul_le_mul_left 100 hl3) (by decide))) fun H1 e w=>law_loop hN ho hg items H1 (by rw[Q8,Nat.add_assoc,Nat.add_comm [_].length];exact hl) (by rw[Q8];exact Nat.add_le_add hc (by decide)) fun H2 hl2 hc2 r=>K H2 hl2 hc2 (RF.cons rfl rfl w trivial lN (by rw[e];exact r))
end
theorem big_some:∀K:Nat,∃N:Nat,∀n:Nat,n.log2<K→n<N:=fun K=>⟨2^K+1,fun n h=>(Nat.eq_zero_or_pos n).elim (fun e=>e▸Nat.succ_pos _) fun hp=>Nat.lt_succ_of_lt ((Nat.log2_lt (Nat.ne_of_gt hp)).mp h)⟩
theorem big_any:∃N,Big N:=big_some 1000000
section
variable{N k:Nat}{σ σ':Sto}{Φ:Calls}{n na nb nl nw nk nq ns nf nB nS nL np cnt:Nat}{T A B F:Tm}{m p:Qx}{o:Nat}{bs fs fb:List Be}{a c b d:Int}{zs:List Int}{s1 s2 s3 s4:Bool}{ρ:Fr}
theorem rot_mem{r:Nat}{f:Be}:f∈(fs.drop r++fs.take r).reverse↔f∈fs:=by
 rw[List.mem_reverse,List.mem_append,or_comm,←List.mem_append,List.take_append_drop]
theorem rot_len{r:Nat}:(fs.drop r++fs.take r).reverse.length=fs.length:=by
 rw[List.length_reverse,Q8,Nat.add_comm,←Q8,List.take_append_drop]
theorem fits4{x:Int}(h: -1≤x∧x≤3):fits x=true:=Z7 (Nat.le_trans (ab9 ⟨Int.le_trans (by decide) h.1,h.2⟩) (by decide))
theorem rev_ok{xs:List V}(h:σ[n]?=some (.list xs))(hl:xs.length<5000):Ji .reverse (.loc n) [] σ=some (.none,σ.set n (.list xs.reverse)):=(mL h).trans (if_pos ⟨rfl,l5000 hl⟩)
set_option maxHeartbeats 4000000 in
theorem c_law(hN:Big N){zs:List Int}(hz:zs.length≤100):∃σ',G0 prog N (k+12) 44 [.loc 0] [.ro (zs.map V.int)]=some (.bool true,σ'):=by
 let S0:Sto:=[.ro (zs.map V.int)]
 let ts:=zs.take 15;have htl:ts.length≤100:=Nat.le_trans (List.length_take_le' _ _) hz;let U1:Sto:=S0++[.list (ts.map V.int)];have hsl:Jc (.loc 0) none (some (.int 15)) S0=some (.loc 1,U1):=(slice_to (t:=15) (σ:=S0) rfl (by rw[Qi];exact Nat.le_trans hz (by decide)) (by decide)).trans (by rw[←List.map_take];rfl);refine cps fun qG qK=>?_;refine z11 (RE.am (Φ:=G0 prog N (k+11)) (σ:=U1) (n:=1) V.int (iv:=V.int) (L:=ts) (fr:=[(50,.loc 0)]) (elt:=.prim .int (.cons (.var 2) .nil)) (tg:=.one 2) (cd:=.no) (wE _ (.slice (.var 50) .no (.yes (.int 15))) [(50,.loc 0)] S0 hsl) rfl (Nat.le_trans htl (by decide)) fun i _ acc τ ha=>⟨τ,RT.one rfl (wE (G0 prog N (k+11)) (.prim .int (.cons (.var 2) .nil)) [(50,.loc 0),(2,.int i)] _ rfl) (Yw ha)⟩) fun τ0 e0=>?_;let nS:=(U1++τ0).length;let U2:Sto:=U1++τ0++[.list (ts.map V.int)];let nB:=U2.length;have B0:Box nB nS 0 ts (U2++[.list [.loc nS,.int 0]]):=⟨G1,Qw G1,(Nat.ne_of_lt (by simp only[nB,U2];rw[Q8];exact Nat.lt_succ_self _)).symm,htl⟩
 refine z34 (Uz (N:=N) (k:=k+10) (j:=3) B0 (by decide) (by decide)) fun r1 S1 zs1 e1 l1 B1 K1=>?_;refine z34 (Uz (N:=N) (k:=k+10) (j:=2) B1 (by decide) (by decide)) fun r2 S2 zs2 e2 l2 B2 K2=>?_;refine z34 (Uz (N:=N) (k:=k+10) (j:=3) B2 (by decide) (by decide)) fun r3 S3 zs3 e3 l3 B3 K3=>?_;refine z34 (Uz (N:=N) (k:=k+10) (j:=2) B3 (by decide) (by decide)) fun r4 S4 zs4 e4 l4 B4 K4=>?_;refine z34 (Uz (N:=N) (k:=k+10) (j:=2) B4 (by decide) (by decide)) fun r5 S5 zs5 e5 l5 B5 K5=>?_;refine z34 (Uz (N:=N) (k:=k+10) (j:=3) B5 (by decide) (by decide)) fun o S6 zs6 e6 ho B6 K6=>?_;let a:Int:=(r1:Int)-1;let c:Int:=a+1+(r2:Int);let b:Int:=(r3:Int)-1;let d:Int:=b+1+(r4:Int);have hg:(a,c,b,d)∈Uy:=grid_mem l1 l2 l3 l4;have hgne:=grid_ne _ hg;have hac:(a:Rat)≠(c:Rat):=fun e=>hgne.1 (Rat.intCast_inj.mp e);have hbd:(b:Rat)≠(d:Rat):=fun e=>hgne.2 (Rat.intCast_inj.mp e);refine zA4 (grid_b _ hg) fun ha hc hb hd=>?_;have e7:RE (G0 prog N (k+11)) gridE [(50,.loc 0),(41,.loc nB),(3,.int a),(54,.int c),(4,.int b),(55,.int d),(8,.int (1+(r5:Int))),(0,.str o)] S6 (.loc S6.length) (S6++[.list ((Yi a c b d true true true true).map ptV)]):=RE.sl [3,54,4,55] grid_ok;let np:=S6.length;let S7:=S6++[.list ((Yi a c b d true true true true).map ptV)];refine z23 (c_poly (N:=N) (k:=k+10) (σ:=S7++[.list ([((2,0),1),((1,0),0-a-c),((0,0),a*c)].map pz)]) (L:=[((2,0),1),((1,0),0-a-c),((0,0),a*c)]) G1 (by simp[zT,keys]) (Nat.le_of_ble_eq_true rfl)) fun τ8 n1 e8 d8 g8=>?_;let S8:=S7++[.list ([((2,0),1),((1,0),0-a-c),((0,0),a*c)].map pz)]++τ8;let nL:=S8.length;let S9:=S8++[.list [.loc n1]];refine z23 (c_poly (N:=N) (k:=k+10) (σ:=S9++[.list ([((0,2),1),((0,1),0-b-d),((0,0),b*d)].map pz)]) (L:=[((0,2),1),((0,1),0-b-d),((0,0),b*d)]) G1 (by simp[zT,keys]) (Nat.le_of_ble_eq_true rfl)) fun τ10 n2 e10 d10 g10=>?_;let S10:=S9++[.list ([((0,2),1),((0,1),0-b-d),((0,0),b*d)].map pz)]++τ10;rw[p1_zT]at d8;rw[p2_zT]at d10;have h9:S9[nL]?=some (.list [.loc n1]):=G1;have h10:S10[nL]?=some (.list [.loc n1]):=Qw (Qw h9);have happ:=Ye (x:=V.loc n2) h10 (by decide:1<5000);let S11:=S10.set nL (.list [.loc n1,.loc n2]);let f1:Be:=⟨n1,(gP1 a c).1,(2,0)⟩
 let f2:Be:=⟨n2,(gP2 b d).1,(0,2)⟩
 have hgb:Gen [cf (p1T a c),cf (p2T b d)] (sel a c b d true true true true):=gen_base hac hbd;have FF:=form_all ho hg true true true true hgb;have q1:gP1 a c∈HF o a c b d true true true true:=.tail _ (.head _);have q2:gP2 b d∈HF o a c b d true true true true:=.head _;have T11:Zj o [f1,f2] nL S11:=⟨G7 h10,mem2 (G8 h10 (Qw (Qw (Qw d8)))) (G8 h10 d10),mem2 (FF.elt _ q1) (FF.elt _ q2)⟩
 have hz3:∀f∈[f1,f2],Zp (sel a c b d true true true true) (co f.G):=mem2 (FF.z _ q1) (FF.z _ q2);have hgen:Gen ([f1,f2].map fun f=>co f.G) (sel a c b d true true true true):=by
  show Gen [co (gP1 a c).1,co (gP2 b d).1] _;rw[show co (gP1 a c).1=cf (p1T a c)from co_mkT (by simp[p1T,keys]),show co (gP2 b d).1=cf (p2T b d)from co_mkT (by simp[p2T,keys])];exact hgb
 have hx2:∃f∈[f1,f2],Gf f.m (2,0)=true:=⟨f1,.head _,rfl⟩
 have hy2:∃f∈[f1,f2],Gf f.m (0,2)=true:=⟨f2,.tail _ (.head _),rfl⟩
 refine z34 (basis_spec (k:=k) hN ho T11 (by decide:2≤4) hg true true true true hz3 hx2 hy2 hgen) fun τ12 nb fb e12 Bn Sn g12=>?_;let S12:=S11++τ12;have A12:At o a c b d true true true true fb nb S12:=⟨Bn,Sn⟩
 have hnL:nL<S11.length:=J5 T11.lst;have l67:S6.length<S7.length:=by simp only[S7];rw[Q8];exact Nat.lt_succ_self _
 have h7L:S7.length≤nL:=J7 (Qz ⟨_,rfl⟩);have h6L:S6.length<nL:=Nat.lt_of_lt_of_le l67 h7L;have hBs:nB<S6.length:=J5 B6.b;have hSs:nS<S6.length:=J5 B6.s;have h6b:S6.length≤nb:=Nat.le_trans (Nat.le_of_lt (Nat.lt_trans h6L hnL)) g12;have P12:S12[np]?=some (.list ((Yi a c b d true true true true).map ptV)):=Qw (Gr (Qw (Qw (Qw (Qw (Qw G1))))) (Nat.ne_of_gt h6L));have X6:nL∉[nB,nS]:=nin2 hBs hSs (Nat.le_of_lt h6L);have B12:Box nB nS 6 zs6 S12:=(B6.app.app.app.app.app.app.set X6).app;have hLb:nL≠nb:=ne_ge hnL g12;refine z11 (c_holds (k:=k+1) (np:=np) hN ho hg (T11.app τ12) (by decide:2≤100) hz3 hgen A12 hLb P12) fun τ13 e13=>?_;refine qK ?_;refine law_loop (k:=k) (X:=Zc (1+r5)) hN ho hg (Zc (1+r5)) (σ:=S12++τ13) (nB:=nB) (nS:=nS) (nL:=nL) (nb:=nb) (np:=np) (cnt:=6) (fs:=[f1,f2]) ⟨B12.app,(T11.app τ12).app τ13,A12.app τ13,Qw P12,hz3,hgen,hx2,hy2,X6,nin2 hBs hSs h6b,nin2 hBs hSs (Qs _),hLb.symm,Nat.ne_of_lt h6L⟩ (by rw[show(Zc (1+r5)).length=1+r5 from(Qi ..).trans List.length_range];exact Nat.add_le_add_left (Nat.add_le_add_left (Nat.le_of_lt_succ l5) 1) 2) (by decide:6≤100*2) ?_;intro S13 cnt' zs' fs t1 t2 t3 t4 fb' nb' np' H hl hcn r13;let xs:=fs.map fun b=>V.loc b.p;have hxl:xs.length≤4:=by simp only[xs];rw[Qi];exact hl
 have hpos:0<xs.length:=z12 H.x2 fun f hf _=>List.length_pos_of_mem (Qj hf);refine z34 (Uz (N:=N) (k:=k+10) (j:=xs.length) H.box hpos (Nat.le_trans hcn (Nat.le_trans (Nat.mul_le_mul_left 100 hl) (by decide)))) fun r S14 zs14 e14 l14 B14 K14=>?_;have T1:=H.told.kp K14 (kp_lists H.box) H.lX;have A1:=H.at_.kp K14 (kp_lists H.box) H.bX;have hx1:xs.length≤1000:=Nat.le_trans hxl (by decide);have hr1:r≤1000:=Nat.le_trans (Nat.le_of_lt l14) hx1;let S15:=S14++[.list (xs.drop r)];let S16:=S15++[.list (xs.take r)];let S17:=S16++[.list (xs.drop r++xs.take r)];have hrl:(xs.drop r).length+(xs.take r).length=xs.length:=by rw[Nat.add_comm,←Q8,List.take_append_drop]
 have hs1:=slicel_from T1.lst hx1 hr1 (Nat.le_of_lt l14);have hs2:=slicel_to (Qw (τ:=[.list (xs.drop r)]) T1.lst) hx1 hr1;have hadd:Jx .add (.loc S14.length) (.loc S15.length) S16=some (.loc S16.length,S17):=addl_ok (Qw G1) G1 (hrl.symm▸Uw (Nat.le_trans hx1 (by decide)));have h17:S17[S16.length]?=some (.list (xs.drop r++xs.take r)):=G1;have hrev:=rev_ok h17 (by rw[Q8,hrl];exact Nat.lt_of_le_of_lt hxl (by decide));have hmap:(fs.drop r++fs.take r).reverse.map (fun b=>V.loc b.p)=(xs.drop r++xs.take r).reverse:=by rw[List.map_reverse,Qr,List.map_drop,List.map_take]
 let S18:=S17.set S16.length (.list (xs.drop r++xs.take r).reverse);have T18:Zj o (fs.drop r++fs.take r).reverse S16.length S18:=⟨hmap▸G7 h17,fun f hf=>G8 h17 (Qw (Qw (Qw (T1.at_ f (rot_mem.mp hf))))),fun f hf=>T1.elt f (rot_mem.mp hf)⟩
 have hnb:nb'<S14.length:=J5 A1.bas.lst;have h146:S14.length≤S16.length:=J7 (Qz ⟨_,rfl⟩);have A18:Gj o fb' nb' S18:=(A1.bas.app _ |>.app _ |>.app _).set h17 (ne_ge hnb h146).symm;have hgen5:Gen ((fs.drop r++fs.take r).reverse.map fun f=>co f.G) (sel a c b d t1 t2 t3 t4):=H.gen.trans fun g hg'=>z12 (Qg hg') fun f hf e=>e▸Sp.one (Qj (f:=fun x:Be=>co x.G) (rot_mem.mpr hf));refine z34 (basis_spec (k:=k) hN ho T18 (rot_len.symm▸hl) hg t1 t2 t3 t4 (fun f hf=>H.z f (rot_mem.mp hf)) (z12 H.x2 fun f hf h=>⟨f,rot_mem.mpr hf,h⟩) (z12 H.y2 fun f hf h=>⟨f,rot_mem.mpr hf,h⟩) hgen5) fun τ19 n19 fb19 e19 B19 S19 g19=>?_;have h148:S14.length≤S18.length:=by simp only[S18];rw[List.length_set];exact J7 (Qz (Qz ⟨_,rfl⟩))
 have heq:=(bas2_eq B19 S19 (A18.app τ19) H.at_.same (ne_ge hnb (Nat.le_trans h148 g19)).symm).1;have hfor:=RF.for (tg:=.one 51) (b:=bo 44 [12]) (N:=N) (kk:=.range) (wE (G0 prog N (k+11)) (.var 8) [(50,.loc 0),(41,.loc nB),(3,.int a),(54,.int c),(4,.int b),(55,.int d),(8,.int (1+(r5:Int))),(0,.str o),(49,.loc np),(48,.loc nL),(35,.loc nb)] (S12++τ13)) (rsrc_ok (j:=1+r5) (Nat.lt_of_le_of_lt (Nat.add_le_add_left (Nat.le_of_lt_succ l5) 1) (by decide))) lN r13;exact⟨S18++τ19,wF N (k+11) 44 [.loc 0] S0 e0 e1 e2 e3 e4 e5 e6 (sub3_ok ho) e7 (Ym (fits4 ha) (fits4 hc)) e8 (Ym (fits4 hb) (fits4 hd)) e10 (kind2 h9 h10) happ e12 e13 rfl hfor (Jr H.told.lst (Nat.lt_of_le_of_lt hxl (by decide))) e14 hs1 hs2 hadd rfl hrev e19 heq⟩
end
theorem clean(zs:List Int)(hz:zs.length≤63):∃(N k:Nat) (σ':Sto),k<500∧G0 prog N (k+1) 44 [.loc 0] [.ro (zs.map V.int)]=some (.bool true,σ'):=
 z11 big_any fun N hN=>z11 (c_law (k:=0) hN (zs:=zs) (Nat.le_trans hz (by decide))) fun σ' h=>⟨N,11,σ',by decide,h⟩
end TK
set_option maxRecDepth 100000
set_option maxHeartbeats 8000000
open PySem PySem.W PyProof.Rows
namespace TK
abbrev RO1:OpenRow:=PySem.Challenge.rw_tk0023_01.row
noncomputable def qv:Program:={PySem.Challenge.pw_tk0023_01 with main:={PySem.Challenge.pw_tk0023_01.main with body:=PySem.Challenge.pw_tk0023_01.main.body.zipIdx.filterMap fun(x,i)=>if i∈[0,2,10,13,24,33,41,49,53]then none else some x}}
theorem said:PySem.Challenge.rw_tk0023_01.wellSaid=true:=by
 unfold OpenLaw.wellSaid OpenRow.wellSaid OpenRow.partSaid looksOpen
 iterate 60 (first|with_reducible apply look_both|skip)
 all_goals decide+kernel
theorem left:LeftO RO1.prog qv [] (fun s=>xlAt qv [] s&&recOk (RowW.records RO1.toRowW) s) (Hook.obs hook) (Hook.val hook) 3472:=by
 intro w
 kernel_rfl
theorem c5:(List.range 45).map (fun f=>RB (codeAt f) (Uh qv f))=(List.range 45).map (Uh qv):=by kernel_rfl
theorem c1:(List.range 45).all (recB qv)=true:=by decide+kernel
theorem dfn:∃d,defOf qv RO1.name=some (d,[])∧RO1.prog.theDef RO1.name=some (d.params,d.body,d.scope)∧kwWritten? d.params.kwonlyargs d.params.kw_defaults=some []∧d.name=fnm 44:=by
 have h1:(defOf qv RO1.name).map (·.2)=some []:=by kernel_rfl
 have h2:(defOf qv RO1.name).map (fun x=>some (x.1.params,x.1.body,x.1.scope))=some (RO1.prog.theDef RO1.name):=by kernel_rfl
 have h3:(defOf qv RO1.name).map (fun x=>kwWritten? x.1.params.kwonlyargs x.1.params.kw_defaults)=some (some []):=by kernel_rfl
 have h4:(defOf qv RO1.name).map (fun x=>x.1.name)=some (fnm 44):=by kernel_rfl
 obtain⟨⟨d,kw⟩,e,h⟩:=Qo h1;rw[e]at h2 h3 h4;cases h;exact⟨d,e,(Option.some.inj h2).symm,Option.some.inj h3,Option.some.inj h4⟩
end TK
theorem PySem.Challenge.cw_tk0023_01_holds : PySem.Challenge.rw_tk0023_01.Holds := by
 refine holds_law TK.said fun said=>?_;obtain⟨d,hdef,hp,hk,hn⟩:=TK.dfn;refine holds_open (q:=TK.qv) (loose:=[]) (Xt:=fun s=>xlAt TK.qv [] s&&recOk (RowW.records TK.RO1.toRowW) s) (XP:=XL TK.qv []) (Yf:=Hook.obs TK.hook) (Ya:=Hook.val TK.hook) (YP:=Hook.says TK.hook) (N:=3472) (d:=d) (kwd:=[]) TK.left (Hook.of TK.hook) (Hook.keeps TK.hook) (fun s e=>xl_of s (Bool.and_eq_true_iff.mp e).1) XL.keeps hdef hp hk (fun s e=>recFacts_of (Bool.and_eq_true_iff.mp e).2) (by rfl) said (by decide+kernel) ⟨rfl,rfl,rfl,rfl,rfl,by decide+kernel⟩ ?hw ?hc
 case hw=>w_witness2
 case hc=>
  intro w s₀ s₁ mg mb G Y fa o pm cd doc dV kV ho hd hcd hD hmg hg args vals as hpre hlay hrd hwl hlo;refine Ground.open G ?_;intro T B D TE TW
  try (refine guard_noD D (by decide+kernel) ?_;clear D)
  wrow_args hpre hlay hrd hwl hlo
  rename_i ns hs x1 x2 x3 x4 w4 w3 a vs w0 hL ra w1 r0 hI hr c1 c2;obtain⟨N,k,σ',hk,hc⟩:=TK.clean ns (by omega);refine TK.joinA (N:=N) (k:=k) (σ':=σ') T Y (hn▸hmg) w1 (by rfl) TK.c1 (by decide+kernel) (by decide+kernel) ⟨by kernel_rfl,by kernel_rfl,by kernel_rfl⟩ TK.c5 hk hc ?_;rintro s' h tk rfl hkeep;refine GoodW.toG ⟨.inl ⟨_,.bool true,[],rfl,?_,?_,?_,?_⟩,hkeep,rfl,hg⟩
  ·intro cls;rfl
  ·exact .bool true
  ·first|kernel_rfl|(with_unfolding_all rfl)
  ·exact fun _=>⟨List.nodup_nil,fun a ha=>by cases ha⟩
