import PyProof.Rows.All
import Wide.All
import OpenK.AllK
import Wide.FinOn
import PySem.Challenge.RW_pq1359_01
section
set_option Elab.async false
set_option linter.all false
set_option maxRecDepth 100000
set_option bootstrap.genMatcherCode false
set_option tactic.hygienic false
set_option genSizeOf false
set_option genSizeOfSpec false
set_option genInjectivity false
set_option backward.match.sparseCases false
namespace Mine.Internal
open PySem
noncomputable abbrev Cs:=List Nat
set_option genCtorIdx false in
inductive PV where
 |none
 |bool (b:Bool)
 |int (i:Int)
 |str (s:Cs)
 |raw (v:Value)
 |rng (a b c:Int)
 |tup (xs:List PV)
 |lst (xs:List PV)
 |dct (es:List (Cs×PV))
 |vec (k i a:PV)
noncomputable def PV.ctorIdx(x:PV):Nat:=PV.casesOn x 0 (fun J=>1) (fun J=>2) (fun J=>3) (fun J=>4) (fun J J J=>5) (fun J=>6) (fun J=>7) (fun J=>8) (fun J J J=>9)
set_option genCtorIdx false in
inductive Val where
 |v (x:PV)
 |h (n:Nat)
noncomputable def Val.ctorIdx(x:Val):Nat:=Val.casesOn x (fun J=>0) (fun J=>1)
set_option genCtorIdx false in
inductive PO where
 |list (xs:List PV)
 |dict (es:List (Cs×PV))
 |dictl (es:List (Cs×List PV))
 |inst (c:Nat) (fs:List (Cs×Val))
 |froz (x:PV)
noncomputable def PO.ctorIdx(x:PO):Nat:=PO.casesOn x (fun J=>0) (fun J=>1) (fun J=>2) (fun J J=>3) (fun J=>4)
noncomputable abbrev Sto:=List PO
noncomputable abbrev PEnv:=List (List (Option Val))
set_option genCtorIdx false in
set_option genInjectivity true in
inductive Res(α:Type)where
 |ok (a:α)
 |exc (m:PV)
 |stk
noncomputable def Res.ctorIdx{α:Type}(x:Res α):Nat:=Res.casesOn x (fun J=>0) (fun J=>1) 2
noncomputable def Res.bind{α β:Type}:Res α→(α→Res β)→Res β
 |.ok a,f=>f a
 |.exc m,_=>.exc m
 |.stk,_=>.stk
noncomputable def Res.noX{α:Type}:Res α→Res α
 |.exc _=>.stk
 |r=>r
theorem Res.bind_at{α β:Type}{r:Res α}{f:α→Res β}{a:α}(e:r=.ok a):r.bind f=f a:=e▸rfl
theorem Res.bind_st{α β:Type}{r:Res α}{f:α→Res β}(e:r=.stk):r.bind f=.stk:=e▸rfl
theorem Res.ok_ne{α:Type}{r:Res α}{a:α}(e:r=.ok a):r≠.stk:=fun h=>nomatch e.symm.trans h
theorem Res.bind_ex{α β:Type}{r:Res α}{f:α→Res β}{x:PV}(e:r=.exc x):r.bind f=.exc x:=e▸rfl
theorem Res.assoc{α β γ:Type}(r:Res α)(f:α→Res β)(g:β→Res γ):(r.bind f).bind g=r.bind fun a=>(f a).bind g:=by induction r using Res.casesOn<;>rfl
noncomputable def Ac{α:Type}:Option α→Res α
 |some a=>.ok a
 |none=>.stk
set_option genCtorIdx false in
set_option genInjectivity false in
inductive Bop'(u:Unit)where|add|sub|mul|mod|pow
noncomputable abbrev Bop:=Bop' ()
noncomputable def Bop'.ctorIdx{u:Unit}(x:Bop' u):Nat:=Bop'.casesOn x 0 1 2 3 4
noncomputable def A5z(b:Bop):Bool:=b.ctorIdx==0
theorem A88{b:Bop}(h:A5z b=true):b=.add:=by cases b<;>first|rfl|exact nomatch h
set_option genCtorIdx false in
set_option genInjectivity false in
inductive Cop'(u:Unit)where|eq|ne|lt|le|gt|ge|is|isNot|isIn|notIn
noncomputable abbrev Cop:=Cop' ()
noncomputable def Cop'.ctorIdx{u:Unit}(x:Cop' u):Nat:=Cop'.casesOn x 0 1 2 3 4 5 6 7 8 9
set_option genCtorIdx false in
set_option genInjectivity false in
inductive Bid'(u:Unit)where|len|range|abs|list|tuple|str|isinst|max|sorted
noncomputable abbrev Bid:=Bid' ()
noncomputable def Bid'.ctorIdx{u:Unit}(x:Bid' u):Nat:=Bid'.casesOn x 0 1 2 3 4 5 6 7 8
set_option genCtorIdx false in
set_option genInjectivity false in
inductive Mid'(u:Unit)where|append|extend|pop|reverse|count|index|get|join
noncomputable abbrev Mid:=Mid' ()
noncomputable def Mid'.ctorIdx{u:Unit}(x:Mid' u):Nat:=Mid'.casesOn x 0 1 2 3 4 5 6 7
set_option genCtorIdx false in
set_option genInjectivity false in
mutual
inductive CE where
 |cst (x:PV)
 |var (d i:Nat)
 |glb (v:Value)
 |tupE (es:CEs)
 |lstE (es:CEs)
 |dctE (ks:List Cs) (es:CEs)
 |boolE (k:Bool) (es:CEs)
 |notE (a:CE)
 |negE (a:CE)
 |bin (op:Bop) (a b:CE)
 |ite (c a b:CE)
 |cmp (op:Cop) (a b:CE)
 |callF (f:Nat) (es:CEs)
 |callC (c:Nat) (es:CEs)
 |callB (b:Bid) (es:CEs)
 |meth (k:Mid) (o:CE) (es:CEs)
 |methF (f:Nat) (nm:Cs) (o:CE) (es:CEs)
 |sdApp (o k:CE) (d i:Nat)
 |attr (o:CE) (a:Cs)
 |sub (o i:CE)
 |slcTo (o i:CE)
 |slcFrom (o i:CE)
 |slcRev (o:CE)
 |comp (elt it:CE) (ifs:CEs) (nv:Nat)
 |fstr (es:CEs)
 |dead
inductive CEs where
 |nil
 |cons (e:CE) (r:CEs)
end
noncomputable def CE.ctorIdx(x:CE):Nat:=CE.casesOn x (fun J=>0) (fun J J=>1) (fun J=>2) (fun J=>3) (fun J=>4) (fun J J=>5) (fun J J=>6) (fun J=>7) (fun J=>8) (fun J J J=>9) (fun J J J=>10) (fun J J J=>11) (fun J J=>12) (fun J J=>13) (fun J J=>14) (fun J J J=>15) (fun J J J J=>16) (fun J J J J=>17) (fun J J=>18) (fun J J=>19) (fun J J=>20) (fun J J=>21) (fun J=>22) (fun J J J J=>23) (fun J=>24) 25
noncomputable def CEs.ctorIdx(x:CEs):Nat:=CEs.casesOn x 0 (fun J J=>1)
set_option genCtorIdx false in
set_option genInjectivity false in
mutual
inductive CS where
 |expr (e:CE)
 |asg (i:Nat) (m:Bool) (e:CE)
 |unp (is:List Nat) (e:CE)
 |setA (o:CE) (a:Cs) (m:Bool) (e:CE)
 |setI (o i e:CE)
 |aug (i:Nat) (op:Bop) (e:CE)
 |ifS (c:CE) (t e:CSs)
 |whl (c:CE) (b:CSs)
 |forS (i:Nat) (it:CE) (b:CSs)
 |forT (is:List Nat) (it:CE) (b:CSs)
 |ret (m:Bool) (e:CE)
 |retN
 |raiseS (e:CE)
 |tryR (e:CE)
 |pass
 |dead
inductive CSs where
 |nil
 |cons (s:CS) (r:CSs)
end
noncomputable def CS.ctorIdx(x:CS):Nat:=CS.casesOn x (fun J=>0) (fun J J J=>1) (fun J J=>2) (fun J J J J=>3) (fun J J J=>4) (fun J J J=>5) (fun J J J=>6) (fun J J=>7) (fun J J J=>8) (fun J J J=>9) (fun J J=>10) 11 (fun J=>12) (fun J=>13) 14 15
noncomputable def CSs.ctorIdx(x:CSs):Nat:=CSs.casesOn x 0 (fun J J=>1)
section
variable {α β:Type}
theorem nf{R:Prop}(h:false=true):R:=nomatch h
theorem nfo{z:α}{R:Prop}(h:none=some z):R:=nomatch h
noncomputable def Nl(x:PV)(k:Option α):Option α:=match x with|.none=>k|_=>none
@[elab_as_elim] theorem A3x{x:PV}{k:Option α}{z:α}{R:PV→Prop}(h:Nl x k=some z)(c:k=some z→R .none):R x:=by induction x using PV.casesOn<;>first|exact c h|exact nfo h
noncomputable def Nm(x:PV)(f:Bool→Option α):Option α:=match x with|.bool b=>f b|_=>none
@[simp] theorem A9o{b:Bool}{f:Bool→Option α}:Nm (.bool b) f=f b:=rfl
@[elab_as_elim] theorem Ht{x:PV}{f:Bool→Option α}{z:α}{R:PV→Prop}(h:Nm x f=some z)(c:∀b,f b=some z→R (.bool b)):R x:=by induction x using PV.casesOn<;>first|exact c _ h|exact nfo h
noncomputable def pInt(x:PV)(f:Int→Option α):Option α:=match x with|.int i=>f i|_=>none
@[simp] theorem Ab8{i:Int}{f:Int→Option α}:pInt (.int i) f=f i:=rfl
@[elab_as_elim] theorem Lr{x:PV}{f:Int→Option α}{z:α}{R:PV→Prop}(h:pInt x f=some z)(c:∀i,f i=some z→R (.int i)):R x:=by induction x using PV.casesOn<;>first|exact c _ h|exact nfo h
noncomputable def pStr(x:PV)(f:Cs→Option α):Option α:=match x with|.str s=>f s|_=>none
@[simp] theorem Ab5{s:Cs}{f:Cs→Option α}:pStr (.str s) f=f s:=rfl
@[elab_as_elim] theorem Fk{x:PV}{f:Cs→Option α}{z:α}{R:PV→Prop}(h:pStr x f=some z)(c:∀s,f s=some z→R (.str s)):R x:=by induction x using PV.casesOn<;>first|exact c _ h|exact nfo h
noncomputable def pRaw(x:PV)(f:Value→Option α):Option α:=match x with|.raw v=>f v|_=>none
@[simp] theorem Ab6{v:Value}{f:Value→Option α}:pRaw (.raw v) f=f v:=rfl
@[elab_as_elim] theorem A7v{x:PV}{f:Value→Option α}{z:α}{R:PV→Prop}(h:pRaw x f=some z)(c:∀v,f v=some z→R (.raw v)):R x:=by induction x using PV.casesOn<;>first|exact c _ h|exact nfo h
noncomputable def pTup(x:PV)(f:List PV→Option α):Option α:=match x with|.tup xs=>f xs|_=>none
@[simp] theorem Ab4{xs:List PV}{f:List PV→Option α}:pTup (.tup xs) f=f xs:=rfl
@[elab_as_elim] theorem Zu{x:PV}{f:List PV→Option α}{z:α}{R:PV→Prop}(h:pTup x f=some z)(c:∀xs,f xs=some z→R (.tup xs)):R x:=by induction x using PV.casesOn<;>first|exact c _ h|exact nfo h
noncomputable def pLst(x:PV)(f:List PV→Option α):Option α:=match x with|.lst xs=>f xs|_=>none
@[simp] theorem Ab7{xs:List PV}{f:List PV→Option α}:pLst (.lst xs) f=f xs:=rfl
@[elab_as_elim] theorem Iy{x:PV}{f:List PV→Option α}{z:α}{R:PV→Prop}(h:pLst x f=some z)(c:∀xs,f xs=some z→R (.lst xs)):R x:=by induction x using PV.casesOn<;>first|exact c _ h|exact nfo h
noncomputable def pDct(x:PV)(f:List (Cs×PV)→Option α):Option α:=match x with|.dct es=>f es|_=>none
@[simp] theorem Ab9{es:List (Cs×PV)}{f:List (Cs×PV)→Option α}:pDct (.dct es) f=f es:=rfl
@[elab_as_elim] theorem A7w{x:PV}{f:List (Cs×PV)→Option α}{z:α}{R:PV→Prop}(h:pDct x f=some z)(c:∀es,f es=some z→R (.dct es)):R x:=by induction x using PV.casesOn<;>first|exact c _ h|exact nfo h
noncomputable def pVec(x:PV)(f:PV→PV→PV→Option α):Option α:=match x with|.vec k i a=>f k i a|_=>none
@[simp] theorem Ab3{k i a:PV}{f:PV→PV→PV→Option α}:pVec (.vec k i a) f=f k i a:=rfl
@[elab_as_elim] theorem Zt{x:PV}{f:PV→PV→PV→Option α}{z:α}{R:PV→Prop}(h:pVec x f=some z)(c:∀k i a,f k i a=some z→R (.vec k i a)):R x:=by induction x using PV.casesOn<;>first|exact c _ _ _ h|exact nfo h
@[simp] theorem A9n{k:Option α}:Nl .none k=k:=rfl
noncomputable def vV(x:Val)(k:PV→Option α):Option α:=match x with|.v y=>k y|.h _=>none
noncomputable def vH(x:Val)(k:Nat→Option α):Option α:=match x with|.h n=>k n|.v _=>none
@[simp] theorem Abg{y:PV}{k:PV→Option α}:vV (.v y) k=k y:=rfl
@[simp] theorem Abh{n:Nat}{k:Nat→Option α}:vH (.h n) k=k n:=rfl
@[simp] theorem Abn{y:PV}{k:Nat→Option α}:vH (.v y) k=none:=rfl
@[elab_as_elim] theorem onVV{x:Val}{k:PV→Option α}{z:α}{R:Val→Prop}(h:vV x k=some z)(c:∀y,k y=some z→R (.v y)):R x:=by cases x;exact c _ h;exact nfo h
@[elab_as_elim] theorem onVH{x:Val}{k:Nat→Option α}{z:α}{R:Val→Prop}(h:vH x k=some z)(c:∀y,k y=some z→R (.h y)):R x:=by cases x;exact nfo h;exact c _ h
noncomputable def vInt(x:Val)(k:Int→Option α):Option α:=vV x fun y=>pInt y k
@[simp] theorem Ab0{i:Int}{k:Int→Option α}:vInt (.v (.int i)) k=k i:=rfl
noncomputable def l0(xs:List β)(k:Option α):Option α:=match xs with|[]=>k|_::_=>none
noncomputable def lC(xs:List β)(k:β→List β→Option α):Option α:=match xs with|x::r=>k x r|[]=>none
@[simp] theorem Abm{k:Option α}:l0 ([]:List β) k=k:=rfl
@[simp] theorem Abj{x:β}{r:List β}{k:β→List β→Option α}:lC (x::r) k=k x r:=rfl
@[elab_as_elim] theorem onL0{xs:List β}{k:Option α}{z:α}{R:List β→Prop}(h:l0 xs k=some z)(c:k=some z→R []):R xs:=by cases xs;exact c h;exact nfo h
@[elab_as_elim] theorem onLC{xs:List β}{k:β→List β→Option α}{z:α}{R:List β→Prop}(h:lC xs k=some z)(c:∀x r,k x r=some z→R (x::r)):R xs:=by cases xs;exact nfo h;exact c _ _ h
noncomputable def l1(xs:List β)(k:β→Option α):Option α:=lC xs fun x r=>l0 r (k x)
noncomputable def l2(xs:List β)(k:β→β→Option α):Option α:=lC xs fun x r=>l1 r (k x)
@[simp] theorem Abl{x:β}{k:β→Option α}:l1 [x] k=k x:=rfl
@[simp] theorem Abk{x y:β}{k:β→β→Option α}:l2 [x,y] k=k x y:=rfl
@[elab_as_elim] theorem onL1{xs:List β}{k:β→Option α}{z:α}{R:List β→Prop}(h:l1 xs k=some z)(c:∀x,k x=some z→R [x]):R xs:=onLC h fun x J h=>onL0 (R:=fun r=>R (x::r)) h (c x)
noncomputable def lE(xs:List β)(k0:Option α)(k:β→List β→Option α):Option α:=match xs with|[]=>k0|x::r=>k x r
@[simp] theorem Abe{k0:Option α}{k:β→List β→Option α}:lE ([]:List β) k0 k=k0:=rfl
@[simp] theorem Aba{k0:Option α}{x:β}{r:List β}{k:β→List β→Option α}:lE (x::r) k0 k=k x r:=rfl
noncomputable def Vx(o:PO)(k:List PV→Option α):Option α:=match o with|.list xs=>k xs|_=>none
noncomputable def A5u(o:PO)(k:List (Cs×PV)→Option α):Option α:=match o with|.dict es=>k es|_=>none
@[simp] theorem A9y{xs:List PV}{k:List PV→Option α}:Vx (.list xs) k=k xs:=rfl
@[simp] theorem A9z{es:List (Cs×PV)}{k:List (Cs×PV)→Option α}:A5u (.dict es) k=k es:=rfl
noncomputable def Go(σ:Sto)(n:Nat)(k:List PV→Option α):Option α:=(σ[n]?).bind fun o=>Vx o k
noncomputable def A5g(σ:Sto)(n:Nat)(k:List (Cs×PV)→Option α):Option α:=(σ[n]?).bind fun o=>A5u o k
theorem B9{γ δ:Type}{o:Option γ}{f:γ→Option δ}{z:δ}{R:Prop}(h:o.bind f=some z)(c:∀a,o=some a→f a=some z→R):R:=by cases o;exact nfo h;exact c _ rfl h
theorem D7{γ δ:Type}{o:Option γ}{f:γ→δ}{z:δ}{R:Prop}(h:o.map f=some z)(c:∀a,o=some a→f a=z→R):R:=by cases o;exact nfo h;exact c _ rfl (Option.some.inj h)
theorem onIf{q:Prop}[Decidable q]{o:Option α}{z:α}{R:Prop}(h:(if q then o else none)=some z)(c:q→o=some z→R):R:=by
 by_cases hq:q
 ·rw[if_pos hq]at h;exact c hq h
 ·rw[if_neg hq]at h;exact nfo h
theorem Hs{σ:Sto}{n:Nat}{k:List PV→Option α}{z:α}{R:Prop}(h:Go σ n k=some z)(c:∀xs,σ[n]?=some (.list xs)→k xs=some z→R):R:=
 B9 h fun o ho h=>by cases o<;>first|exact c _ ho h|exact nfo h
theorem A3v{σ:Sto}{n:Nat}{k:List (Cs×PV)→Option α}{z:α}{R:Prop}(h:A5g σ n k=some z)(c:∀xs,σ[n]?=some (.dict xs)→k xs=some z→R):R:=
 B9 h fun o ho h=>by cases o<;>first|exact c _ ho h|exact nfo h
end
noncomputable def LIM:Nat:=4096
noncomputable def pkO:PO→Option PV
 |.list xs=>some (.lst xs)
 |.dict es=>some (.dct es)
 |.froz x=>some x
 |.dictl _=>none
 |.inst _ _=>none
noncomputable def pk(σ:Sto):Val→Option PV
 |.v x=>some x
 |.h n=>(σ[n]?).bind pkO
noncomputable def look{β:Type}(k:Cs):List (Cs×β)→Option β
 |[]=>none
 |(a,b)::r=>if a=k then some b else look k r
noncomputable def put{β:Type}(k:Cs)(x:β):List (Cs×β)→List (Cs×β)
 |[]=>[(k,x)]
 |(a,b)::r=>if a=k then(a,x)::r else(a,b)::put k x r
noncomputable def cKind:Cs:=[107,105,110,100]
noncomputable def cItems:Cs:=[105,116,101,109,115]
noncomputable def cAttrs:Cs:=[97,116,116,114,115]
noncomputable def cShared:Cs:=[115,104,97,114,101,100]
noncomputable def cLoose:Cs:=[108,111,111,115,101]
noncomputable def vecF(fs:List (Cs×Val))(f:PV→PV→PV→Option (PV×Sto)):Option (PV×Sto):=
 lC fs fun a r=>vV a.2 fun k=>lC r fun b r=>vV b.2 fun i=>lC r fun c r=>vV c.2 fun x=>lC r fun d r=>vV d.2 fun y=>Nm y fun J=>lC r fun e r=>vV e.2 fun y=>Nm y fun J=>l0 r
  (if a.1=cKind∧b.1=cItems∧c.1=cAttrs∧d.1=cShared∧e.1=cLoose then f k i x else none)
noncomputable def frzO(σ:Sto)(n:Nat):PO→Option (PV×Sto)
 |.list xs=>some (.lst xs,σ.set n (.froz (.lst xs)))
 |.dict es=>some (.dct es,σ.set n (.froz (.dct es)))
 |.dictl es=>some (.dct (es.map fun e=>(e.1,.lst e.2)),σ.set n (.froz (.dct (es.map fun e=>(e.1,.lst e.2)))))
 |.froz x=>some (x,σ)
 |.inst c fs=>if c=0 then vecF fs fun k i a=>some (.vec k i a,σ.set n (.froz (.vec k i a)))else none
noncomputable def frz(σ:Sto):Val→Option (PV×Sto)
 |.v x=>some (x,σ)
 |.h n=>(σ[n]?).bind (frzO σ n)
noncomputable def frzs(σ:Sto):List Val→Option (List PV×Sto)
 |[]=>some ([],σ)
 |a::r=>(frz σ a).bind fun q=>(frzs q.2 r).map fun z=>(q.1::z.1,z.2)
noncomputable def mk(m:Bool)(xs:List PV)(σ:Sto):Val×Sto:=
 if m then(.h σ.length,σ++[.list xs])else(.v (.lst xs),σ)
noncomputable def mkD(m:Bool)(es:List (Cs×PV))(σ:Sto):Val×Sto:=
 if m then(.h σ.length,σ++[.dict es])else(.v (.dct es),σ)
noncomputable def Aa0:PV→Option Bool
 |.none=>some true
 |.int _=>some false
 |.str _=>some false
 |_=>none
noncomputable def int0(a:Int):PV→Option Bool
 |.none=>some false
 |.int b=>some (decide (a=b))
 |.str _=>some false
 |_=>none
noncomputable def str0(a:Cs):PV→Option Bool
 |.none=>some false
 |.int _=>some false
 |.str b=>some (decide (a=b))
 |_=>none
noncomputable def eq0(x y:PV):Option Bool:=match x with
 |.none=>Aa0 y
 |.bool a=>Nm y fun b=>some (a==b)
 |.int a=>int0 a y
 |.str a=>str0 a y
 |_=>none
noncomputable def and2:Option Bool→Option Bool→Option Bool
 |some a,o=>o.map (a&&·)
 |none,_=>none
noncomputable def or2:Option Bool→Option Bool→Option Bool
 |some a,o=>o.map (a||·)
 |none,_=>none
theorem A2n{a b:Option Bool}{c:Bool}(h:and2 a b=some c):∃x y,a=some x∧b=some y∧c=(x&&y):=by
 induction a using Option.casesOn
 ·exact nfo h
 ·exact D7 h fun y h e=>⟨_,y,rfl,h,e.symm⟩
theorem A3s{a b:Option Bool}{c:Bool}(h:or2 a b=some c):∃x y,a=some x∧b=some y∧c=(x||y):=by
 induction a using Option.casesOn
 ·exact nfo h
 ·exact D7 h fun y h e=>⟨_,y,rfl,h,e.symm⟩
noncomputable def all2(f:PV→PV→Option Bool):List PV→List PV→Option Bool
 |[],ys=>some ys.isEmpty
 |x::xs,ys=>match ys with
  |y::ys=>and2 (f x y) (all2 f xs ys)
  |[]=>some false
noncomputable def eqPd:Nat→PV→PV→Option Bool
 |0,x,y=>eq0 x y
 |d+1,x,y=>match x with
  |.tup xs=>pTup y fun ys=>all2 (eqPd d) xs ys
  |.lst xs=>pLst y fun ys=>all2 (eqPd d) xs ys
  |x=>eq0 x y
noncomputable def eqP(x y:PV):Option Bool:=eqPd 4 x y
noncomputable def memP(x:PV):List PV→Option Bool
 |[]=>some false
 |y::ys=>or2 (eqP y x) (memP x ys)
noncomputable def countP(x:PV):List PV→Option Nat
 |[]=>some 0
 |y::ys=>(eqP y x).bind fun b=>(countP x ys).map fun n=>if b then n+1 else n
noncomputable def U3(x:PV):List PV→Option Nat
 |[]=>none
 |y::ys=>(eqP y x).bind fun b=>cond b (some 0) ((U3 x ys).map (·+1))
noncomputable def ltCs(a b:Cs):Bool:=decide (a<b)
noncomputable def rngN(a b c:Int):Nat:=if a<b then((b-a-1)/c+1).toNat else 0
noncomputable def rngL(a b c:Int):List PV:=(List.range (rngN a b c)).map fun(i:Nat)=>PV.int (a+(i:Int)*c)
noncomputable def bnd(a:Int):Bool:= -4096≤a&&a≤4096
noncomputable def Az:PV→Option (List PV)
 |.lst xs=>some xs
 |.tup xs=>some xs
 |.rng a b c=>if 0<c&&bnd a&&bnd b&&bnd c then some (rngL a b c)else none
 |_=>none
noncomputable def isN:PV→Option Bool
 |.none=>some true
 |.raw _=>none
 |_=>some false
noncomputable def ltP(x y:PV):Option Bool:=match x with
 |.int a=>pInt y fun b=>some (decide (a<b))
 |.str a=>pStr y fun b=>some (ltCs a b)
 |_=>none
noncomputable def inP(x y:PV):Option Bool:=match y with
 |.lst ys=>memP x ys
 |.tup ys=>memP x ys
 |.dct es=>pStr x fun k=>some (look k es).isSome
 |_=>none
noncomputable def cmpP(op:Cop)(x y:PV):Option Bool:=
 match op with
 |.eq=>eqP x y
 |.ne=>(eqP x y).map (!·)
 |.lt=>ltP x y
 |.gt=>ltP y x
 |.le=>pInt x fun a=>pInt y fun b=>some (decide (a≤b))
 |.ge=>pInt x fun a=>pInt y fun b=>some (decide (b≤a))
 |.is=>Nl y (isN x)
 |.isNot=>Nl y ((isN x).map (!·))
 |.isIn=>inP x y
 |.notIn=>(inP x y).map (!·)
section
variable {β:Type} {k a:Cs} {x z:β} {r:List (Cs×β)}
theorem Dz:look k ([]:List (Cs×β))=none:=rfl
theorem Cp:look k ((a,x)::r)=if a=k then some x else look k r:=rfl
theorem Jq:put k x []=[(k,x)]:=rfl
theorem Fh:put k x ((a,z)::r)=if a=k then(a,x)::r else(a,z)::put k x r:=rfl
theorem Ru{xs:List PV}:Az (.lst xs)=some xs:=rfl
theorem Ju{a b c:Int}:Az (.rng a b c)=if 0<c&&bnd a&&bnd b&&bnd c then some (rngL a b c)else none:=rfl
end
noncomputable def small(n:Nat):Bool:=n≤LIM
noncomputable def addP(m:Bool)(x y:PV)(σ:Sto):Option (Val×Sto):=match x with
 |.int a=>pInt y fun b=>some (.v (.int (a+b)),σ)
 |.str a=>pStr y fun b=>if small (a.length+b.length)then some (.v (.str (a++b)),σ)else none
 |.lst a=>pLst y fun b=>if small (a.length+b.length)then some (mk m (a++b) σ)else none
 |.tup a=>pTup y fun b=>lC a fun a as=>lC b fun b bs=>if small ((a::as).length+(b::bs).length)then some (.v (.tup (a::as++b::bs)),σ)else none
 |_=>none
noncomputable def binP(op:Bop)(m:Bool)(x y:PV)(σ:Sto):Option (Val×Sto):=
 match op with
 |.add=>addP m x y σ
 |.sub=>pInt x fun a=>pInt y fun b=>some (.v (.int (a-b)),σ)
 |.mul=>pLst x fun a=>l1 a fun a=>pInt y fun n=>if 0≤n∧small n.toNat=true then some (mk m (List.replicate n.toNat a) σ)else none
 |.mod=>pInt x fun a=>pInt y fun b=>if 0<b&&b≤1000 then some (.v (.int (a%b)),σ)else none
 |.pow=>pInt x fun a=>pInt y fun b=>if a=10&&b=18 then some (.v (.int 1000000000000000000),σ)else none
noncomputable def Ew(n:Nat)(i:Int):Option Nat:=
 if small n then(if 0≤i then(if i.toNat<n then some i.toNat else none)else(if 0≤i+n then some (i+n).toNat else none))else none
noncomputable def subP(x i:PV):Option PV:=
 match x with
 |.lst xs=>pInt i fun k=>(Ew xs.length k).bind fun j=>xs[j]?
 |.tup xs=>pInt i fun k=>(Ew xs.length k).bind fun j=>xs[j]?
 |.str s=>pInt i fun k=>(Ew s.length k).bind fun j=>(s[j]?).map fun c=>.str [c]
 |.dct es=>pStr i fun k=>look k es
 |_=>none
noncomputable def B3(i:Int):Cs:=(toString i).toList.map Char.toNat
noncomputable def W1(sep:Cs):List PV→Option Cs
 |[]=>some []
 |x::r=>pStr x fun a=>match r with
  |[]=>some a
  |_::_=>(W1 sep r).map fun t=>a++sep++t
noncomputable def He:PV→Option Cs
 |.str s=>if small s.length then some s else none
 |.int i=>if -1000000<i&&i<1000000&&small (B3 i).length then some (B3 i)else none
 |_=>none
theorem A2y{i:Int}:He (.int i)=if -1000000<i&&i<1000000&&small (B3 i).length then some (B3 i)else none:=rfl
set_option genCtorIdx false in
structure R4 where
 a:Int
 s:Cs
 b:Int
 c:Int
noncomputable def R4.pv(r:R4):PV:=.lst [.int r.a,.str r.s,.int r.b,.int r.c]
noncomputable def R4.lt(x y:R4):Bool:=if x.a=y.a then(if x.s=y.s then(if x.b=y.b then decide (x.c<y.c)else decide (x.b<y.b))else ltCs x.s y.s)else decide (x.a<y.a)
noncomputable def Ze(x:PV):Option R4:=pLst x fun l=>lC l fun a l=>pInt a fun a=>lC l fun s l=>pStr s fun s=>lC l fun b l=>pInt b fun b=>l1 l fun c=>pInt c fun c=>some ⟨a,s,b,c⟩
noncomputable def Ek:List PV→Option (List R4)
 |[]=>some []
 |x::xs=>(Ze x).bind fun r=>(Ek xs).map (r::·)
noncomputable def insR(x:R4):List R4→List R4
 |[]=>[x]
 |y::ys=>if R4.lt y x then y::insR x ys else x::y::ys
noncomputable def Do:List R4→List R4
 |[]=>[]
 |x::xs=>insR x (Do xs)
noncomputable abbrev Phi:=Nat→List Val→Sto→Res (Val×Sto)
set_option genCtorIdx false in
inductive Fl where
 |next
 |ret (x:Val)
noncomputable def Fl.ctorIdx(x:Fl):Nat:=Fl.casesOn x 0 (fun J=>1)
noncomputable def getV(ρ:PEnv)(d i:Nat):Option Val:=((ρ[d]?.getD [])[i]?).join
noncomputable def setV(ρ:PEnv)(i:Nat)(x:Val):PEnv:=match ρ with
 |[]=>[]
 |r::rs=>r.set i (some x)::rs
set_option genCtorIdx false in
structure Pol where
 shared:Nat→Bool
 initOf:Nat→Nat
noncomputable def No(n:Nat):Option PO→Val
 |some (.froz x)=>.v x
 |_=>.h n
noncomputable def norm(σ:Sto):Val→Val
 |.v x=>.v x
 |.h n=>No n (σ[n]?)
noncomputable def Mg(m:Bool)(σ1 σ2:Sto)(n:Nat):Option PO→Res (Val×Sto)
 |some po=>(match po with
  |.list xs=>.ok (mk m xs σ1)
  |po=>Ac ((frzO σ2 n po).map fun z=>(.v z.1,σ1)))
 |none=>.stk
noncomputable def Dv(m:Bool)(σ1:Sto)(q:Val×Sto):Res (Val×Sto):=match q.1 with
 |.v x=>.ok (.v x,σ1)
 |.h n=>Mg m σ1 q.2 n (q.2[n]?)
noncomputable def Fr{α:Type}(k:List PV→Sto→Res α):Option (List PV×Sto)→Res α
 |some q=>k q.1 q.2
 |none=>.stk
theorem Ny{α:Type}{k:List PV→Sto→Res α}{o:Option (List PV×Sto)}(h:Fr k o≠.stk):∃ps σ,o=some (ps,σ)∧k ps σ≠.stk:=by
 induction o using Option.casesOn with
 |none=>exact absurd rfl h
 |some q=>exact⟨q.1,q.2,rfl,h⟩
noncomputable def A1(pol:Pol)(Φ:Phi)(f:Nat)(m:Bool)(vs:List Val)(σ:Sto):Res (Val×Sto):=
 cond (pol.shared f) (Φ f vs σ) (Fr (fun ps σ1=>(Φ f (ps.map .v) []).bind (Dv m σ1)) (frzs σ vs))
noncomputable def Mf(m:Bool)(k:Nat)(q:Val×Sto):Res (Val×Sto):=match q.1 with
 |.v .none=>cond m (.ok (.h k,q.2)) (Ac ((frz q.2 (.h k)).map fun z=>(.v z.1,z.2)))
 |_=>.stk
noncomputable def Cd(pol:Pol)(Φ:Phi)(c:Nat)(m:Bool)(vs:List Val)(σ:Sto):Res (Val×Sto):=
 Fr (fun ps σ1=>(Φ (pol.initOf c) (.h σ1.length::ps.map .v) (σ1++[.inst c []])).bind (Mf m σ1.length)) (frzs σ vs)
noncomputable def cVec:Addr:=311
noncomputable def lenP(σ:Sto)(x:PV):Option (Val×Sto):=match x with
 |.lst xs=>if small xs.length then some (.v (.int xs.length),σ)else none
 |.str s=>if small s.length then some (.v (.int s.length),σ)else none
 |_=>none
noncomputable def A0h(m:Bool)(σ:Sto)(x:PV):Option (Val×Sto):=match x with
 |.lst xs=>if small xs.length then some (mk m xs σ)else none
 |.rng a b c=>if 0<c&&bnd a&&bnd b&&bnd c then some (mk m (rngL a b c) σ)else none
 |_=>none
noncomputable def tupP(σ:Sto)(x:PV):Option (Val×Sto):=pLst x fun xs=>if small xs.length then some (.v (.tup xs),σ)else none
section
variable {α:Type}
noncomputable def vRef(w:Value)(k:Addr→Option α):Option α:=match w with|.ref c=>k c|_=>none
noncomputable def vTyp(w:Value)(k:String→Option α):Option α:=match w with|.type c=>k c|_=>none
@[elab_as_elim] theorem A7s{w:Value}{k:Addr→Option α}{z:α}{R:Value→Prop}(h:vRef w k=some z)(c:∀a,k a=some z→R (.ref a)):R w:=by induction w using PySem.Value.casesOn<;>first|exact c _ h|exact nfo h
@[elab_as_elim] theorem A7r{w:Value}{k:String→Option α}{z:α}{R:Value→Prop}(h:vTyp w k=some z)(c:∀a,k a=some z→R (.type a)):R w:=by induction w using PySem.Value.casesOn<;>first|exact c _ h|exact nfo h
end
noncomputable def isiP(x:PV)(w:Value):Option Bool:=match x with
 |.vec _ _ _=>vRef w fun c=>if c=cVec then some true else none
 |.bool _=>vTyp w fun t=>if t="list" then some false else none
 |_=>none
noncomputable def rngP(vs:List Val):Option PV:=lC vs fun a r=>vInt a fun a=>lE r (some (.rng 0 a 1)) fun b r=>vInt b fun b=>lE r (some (.rng a b 1)) fun c r=>vInt c fun c=>l0 r (if 0<c&&bnd c then some (.rng a b c)else none)
noncomputable def Z1(m:Bool)(σ:Sto)(x:PV):Option (Val×Sto):=pLst x fun xs=>if xs.length<64 then(Ek xs).map fun rs=>mk m ((Do rs).map R4.pv) σ else none
noncomputable def callB(b:Bid)(m:Bool)(vs:List Val)(σ:Sto):Option (Val×Sto):=
 match b with
 |.len=>l1 vs fun a=>(pk σ a).bind (lenP σ)
 |.range=>(rngP vs).map fun x=>(.v x,σ)
 |.abs=>l1 vs fun a=>vInt a fun n=>some (.v (.int n.natAbs),σ)
 |.list=>l1 vs fun a=>(pk σ a).bind (A0h m σ)
 |.tuple=>l1 vs fun a=>(pk σ a).bind (tupP σ)
 |.str=>l1 vs fun a=>vInt a fun n=>if -1000000<n&&n<1000000 then some (.v (.str (B3 n)),σ)else none
 |.isinst=>l2 vs fun a b=>vV a fun a=>vV b fun b=>pRaw b fun w=>(isiP a w).map fun z=>(.v (.bool z),σ)
 |.max=>l2 vs fun a b=>vInt a fun a=>vInt b fun b=>some (.v (.int (if a<b then b else a)),σ)
 |.sorted=>l1 vs fun a=>(pk σ a).bind (Z1 m σ)
noncomputable def idxP(x:PV)(xs:List PV):Option PV:=if(memP x xs).isSome&&small xs.length then(U3 x xs).map (fun(n:Nat)=>PV.int n)else none
noncomputable def A0a(k:Mid)(o:PV)(vs:List PV):Option PV:=
 match k with
 |.count=>pLst o fun xs=>l1 vs fun x=>(countP x xs).map fun(n:Nat)=>PV.int n
 |.index=>match o with
  |.lst xs=>l1 vs fun x=>idxP x xs
  |.tup xs=>l1 vs fun x=>idxP x xs
  |_=>none
 |.get=>pDct o fun es=>lC vs fun k r=>pStr k fun k=>lE r (some ((look k es).getD .none)) fun d r=>l0 r (some ((look k es).getD d))
 |.join=>pStr o fun s=>l1 vs fun a=>pLst a fun xs=>(W1 s xs).bind fun t=>if small (t.length+s.length)then some (.str t)else none
 |_=>none
noncomputable def Ih(k:Mid)(o:Val)(vs:List Val)(σ:Sto):Option (Val×Sto):=
 match k with
 |.append=>vH o fun n=>l1 vs fun a=>(frz σ a).bind fun q=>Go q.2 n fun xs=>if small xs.length then some (.v .none,q.2.set n (.list (xs++[q.1])))else none
 |.extend=>vH o fun n=>l1 vs fun a=>vV a fun a=>pLst a fun ys=>Go σ n fun xs=>if small (xs.length+ys.length)then some (.v .none,σ.set n (.list (xs++ys)))else none
 |.pop=>vH o fun n=>l0 vs (Go σ n fun xs=>xs.getLast?.bind fun x=>if small xs.length then some (.v x,σ.set n (.list xs.dropLast))else none)
 |.reverse=>vH o fun n=>l0 vs (Go σ n fun xs=>if small xs.length then some (.v .none,σ.set n (.list xs.reverse))else none)
 |k=>(frz σ o).bind fun p=>(frzs p.2 vs).bind fun q=>(A0a k p.1 q.1).map fun r=>(.v r,q.2)
noncomputable def vecA(a:Cs)(k i at':PV):Option Val:=if a=cKind then some (.v k)else if a=cItems then some (.v i)else if a=cAttrs then some (.v at')else none
noncomputable def Aaw(a:Cs):PO→Option Val
 |.inst c fs=>if c<2 then look a fs else none
 |.froz x=>pVec x (vecA a)
 |_=>none
noncomputable def T0(o:Val)(a:Cs)(σ:Sto):Option Val:=
 match o with
 |.v x=>pVec x (vecA a)
 |.h n=>(σ[n]?).bind (Aaw a)
noncomputable def rawV:Val→Bool
 |.v (.raw _)=>true
 |_=>false
noncomputable def vecS(a:Cs)(x:Val)(σ:Sto)(y:PV):Option Sto:=pVec y fun J J J=>if a=cShared then(vV x fun x=>Nm x fun J=>some σ)else none
noncomputable def E4(o:Val)(a:Cs)(x:Val)(σ:Sto):Option Sto:=
 match o with
 |.v y=>vecS a x σ y
 |.h n=>(σ[n]?).bind fun o=>match o with
  |.inst c fs=>if c<2&&small fs.length then some (σ.set n (.inst c (put a x fs)))else none
  |.froz y=>vecS a x σ y
  |_=>none
noncomputable def E3(o i x:Val)(σ:Sto):Option Sto:=
 (frz σ x).bind fun q=>vH o fun n=>vV i fun i=>match i with
  |.str k=>A5g q.2 n fun es=>if small es.length then some (q.2.set n (.dict (put k q.1 es)))else none
  |.int j=>Go q.2 n fun xs=>if 0≤j&&decide (j.toNat<xs.length)&&small xs.length then some (q.2.set n (.list (xs.set j.toNat q.1)))else none
  |_=>none
noncomputable def sdO(k:Cs)(x:PV)(σ:Sto)(n:Nat):PO→Option Sto
 |.dict es=>l0 es (some (σ.set n (.dictl [(k,[x])])))
 |.dictl es=>if small es.length&&small ((look k es).getD []).length then some (σ.set n (.dictl (put k ((look k es).getD []++[x]) es)))else none
 |_=>none
noncomputable def sdApp(o k:Val)(x:PV)(σ:Sto):Option Sto:=vH o fun n=>vV k fun k=>pStr k fun k=>(σ[n]?).bind (sdO k x σ n)
set_option genCtorIdx false in
set_option genInjectivity false in
inductive Ty'(u:Unit)where|list|tuple|dict|str
noncomputable abbrev Ty:=Ty' ()
noncomputable def Ty'.ctorIdx{u:Unit}(x:Ty' u):Nat:=Ty'.casesOn x 0 1 2 3
theorem Ty'.one(a b:Ty)(h:a.ctorIdx=b.ctorIdx):a=b:=by cases a<;>cases b<;>first|rfl|exact nomatch h
noncomputable def Wb:(a b:Option Ty)→Decidable (a=b)
 |none,none=>isTrue rfl
 |none,some _=>isFalse nofun
 |some _,none=>isFalse nofun
 |some a,some b=>if h:a.ctorIdx=b.ctorIdx then isTrue (congrArg some (Ty'.one a b h))else isFalse fun e=>h (congrArg Ty'.ctorIdx (Option.some.inj e))
noncomputable def tyP:PV→Option Ty
 |.lst _=>some .list
 |.tup _=>some .tuple
 |.dct _=>some .dict
 |.str _=>some .str
 |_=>none
noncomputable def tyO:PO→Option Ty
 |.list _=>some .list
 |.dict _=>some .dict
 |.dictl _=>some .dict
 |.froz x=>tyP x
 |.inst _ _=>none
noncomputable def tyOf(σ:Sto):Val→Option Ty
 |.v x=>tyP x
 |.h n=>(σ[n]?).bind tyO
noncomputable def okM(k:Mid)(t:Ty):Bool:=match t with
 |.list=>(match k with|.get=>false|.join=>false|_=>true)
 |.tuple=>(match k with|.index=>true|_=>false)
 |.dict=>(match k with|.get=>true|_=>false)
 |.str=>(match k with|.join=>true|_=>false)
noncomputable def slcP(lo hi:Option Int)(x:PV)(m:Bool)(σ:Sto):Option (Val×Sto):=
 match x with
 |.lst xs=>match lo,hi with
  |none,some j=>if 0≤j&&small xs.length then some (mk m (xs.take j.toNat) σ)else none
  |some i,none=>if 0≤i&&small xs.length then some (mk m (xs.drop i.toNat) σ)else none
  |_,_=>none
 |.tup xs=>match lo,hi with
  |none,some j=>if 0≤j&&decide (j.toNat<xs.length)&&small xs.length then some (.v (.tup (xs.take j.toNat)),σ)else none
  |some i,none=>if 1≤i&&decide (i.toNat≤xs.length)&&small xs.length then some (.v (.tup (xs.drop i.toNat)),σ)else none
  |_,_=>none
 |_=>none
noncomputable def frzK{α:Type}(k:PV×Sto→Res α):Option (PV×Sto)→Res α
 |some q=>k q
 |none=>.stk
noncomputable def Jx(test:PV→Sto→Res (Bool×Sto))(elt:PV→Sto→Res (Val×Sto)):List PV→List PV→Sto→Res (List PV×Sto)
 |[],acc,σ=>.ok (acc,σ)
 |y::ys,acc,σ=>(test y σ).bind fun t=>cond t.1 ((elt y t.2).bind fun r=>frzK (fun q=>Jx test elt ys (acc++[q.1]) q.2) (frz r.2 r.1)) (Jx test elt ys acc t.2)
noncomputable def Bx:List Nat→List PV→PEnv→Option PEnv
 |[],[],ρ=>some ρ
 |i::is,x::xs,ρ=>Bx is xs (setV ρ i (.v x))
 |_,_,_=>none
theorem A3d{i:Nat}{is:List Nat}{x:PV}{xs:List PV}{ρ:PEnv}:Bx (i::is) (x::xs) ρ=Bx is xs (setV ρ i (.v x)):=rfl
noncomputable def Aas(a:Val×Sto):Res (Bool×Sto):=match a.1 with
 |.v (.bool b)=>.ok (b,a.2)
 |_=>.stk
noncomputable def Ar(r:Res (Val×Sto)):Res (Bool×Sto):=r.bind Aas
noncomputable def Ko(a:Val×Sto):Res (Cs×Sto):=match a.1 with
 |.v y=>(Ac (He y)).bind fun t=>.ok (t,a.2)
 |.h _=>.stk
noncomputable def J7{α:Type}(k:List PV→Sto→Res α)(σ:Sto):Option (List PV)→Res α
 |none=>.stk
 |some xs=>k xs σ
noncomputable def Dt{α:Type}(k:List PV→Sto→Res α):Option (PV×Sto)→Res α
 |none=>.stk
 |some q=>J7 k q.2 (Az q.1)
inductive ItemsAt{α:Type}(k:List PV→Sto→Res α)(o:Option (PV×Sto)):Prop
 |mk (x:PV) (σ:Sto) (xs:List PV) (e1:o=some (x,σ)) (e2:Az x=some xs) (e3:Dt k o=k xs σ):ItemsAt k o
theorem Ds{α:Type}{k:List PV→Sto→Res α}{o:Option (PV×Sto)}(h:Dt k o≠.stk):ItemsAt k o:=by
 induction o using Option.casesOn with
 |none=>exact absurd rfl h
 |some q=>
  cases e:Az q.1 with
  |none=>exact absurd (congrArg (J7 k q.2) e) h
  |some xs=>exact⟨q.1,q.2,xs,rfl,e,congrArg (J7 k q.2) e⟩
noncomputable def A1x(m:Bool)(q:List PV×Sto):Res (Val×Sto):=.ok (mk m q.1 q.2)
noncomputable def O9(m:Bool)(xs:List PV)(r:Res (List PV×Sto)):Res (Val×Sto):=if small xs.length then r.noX.bind (A1x m)else .stk
inductive CompKAt(m:Bool)(xs:List PV)(r:Res (List PV×Sto)):Prop
 |mk (ys:List PV) (σ:Sto) (hs:small xs.length=true) (e1:r=.ok (ys,σ)) (e2:O9 m xs r=.ok (mk m ys σ)):CompKAt m xs r
theorem O8{m:Bool}{xs:List PV}{r:Res (List PV×Sto)}(h:O9 m xs r≠.stk):CompKAt m xs r:=by
 by_cases hs:small xs.length=true
 ·have e:O9 m xs r=r.noX.bind (A1x m):=if_pos hs
  induction r using Res.casesOn with
  |stk=>exact absurd e h
  |exc=>exact absurd e h
  |ok q=>exact⟨q.1,q.2,hs,rfl,e⟩
 ·exact absurd (if_neg hs) h
noncomputable def envK{α:Type}(k:PEnv→Res α):Option PEnv→Res α
 |some ρ=>k ρ
 |none=>.stk
noncomputable def tupK{α:Type}(is:List Nat)(ρ:PEnv)(k:PEnv→Res α)(y:PV):Res α:=match y with
 |.tup ys=>envK k (Bx is ys ρ)
 |_=>.stk
set_option tactic.hygienic true in
theorem Yr{α:Type}{is:List Nat}{ρ:PEnv}{k:PEnv→Res α}{y:PV}(h:tupK is ρ k y≠.stk):∃ys ρ',y=.tup ys∧Bx is ys ρ=some ρ'∧tupK is ρ k y=k ρ':=by
 cases y<;>first|exact absurd rfl h|skip
 rename_i ys
 cases e:Bx is ys ρ with
 |none=>exact absurd (congrArg (envK k) e) h
 |some ρ'=>exact⟨ys,ρ',rfl,e,congrArg (envK k) e⟩
noncomputable def kVar(σ:Sto):Option Val→Res (Val×Sto)
 |some x=>.ok (norm σ x,σ)
 |none=>.stk
section
variable {test:PV→Sto→Res (Bool×Sto)} {elt:PV→Sto→Res (Val×Sto)} {y:PV} {ys acc:List PV} {σ:Sto}
theorem We:Jx test elt [] acc σ=.ok (acc,σ):=rfl
end
mutual
noncomputable def ev(pol:Pol)(Φ:Phi)(ρ:PEnv)(m:Bool):CE→Sto→Res (Val×Sto)
 |.cst x,σ=>.ok (.v x,σ)
 |.var d i,σ=>kVar σ (getV ρ d i)
 |.glb v,σ=>.ok (.v (.raw v),σ)
 |.tupE es,σ=>(evs pol Φ ρ es σ).bind fun r=>Ac ((frzs r.2 r.1).map fun q=>(.v (.tup q.1),q.2))
 |.lstE es,σ=>(evs pol Φ ρ es σ).bind fun r=>Ac ((frzs r.2 r.1).map fun q=>mk m q.1 q.2)
 |.dctE ks es,σ=>(evs pol Φ ρ es σ).bind fun r=>Ac ((frzs r.2 r.1).bind fun q=>if ks.length=q.1.length∧ks.length≤15 then some (mkD m ((ks.zip q.1).foldl (fun es kx=>put kx.1 kx.2 es) []) q.2)else none)
 |.boolE k es,σ=>evBo pol Φ ρ k es σ
 |.notE a,σ=>(Ar (ev pol Φ ρ false a σ)).bind fun r=>.ok (.v (.bool (!r.1)),r.2)
 |.negE a,σ=>(ev pol Φ ρ false a σ).bind fun r=>match r.1 with
  |.v (.int i)=>.ok (.v (.int (-i)),r.2)
  |_=>.stk
 |.bin op a b,σ=>(ev pol Φ ρ false a σ).bind fun r=>(ev pol Φ ρ false b r.2).bind fun q=>
  Ac ((pk q.2 r.1).bind fun x=>(pk q.2 q.1).bind fun y=>binP op m x y q.2)
 |.ite c a b,σ=>(Ar (ev pol Φ ρ false c σ)).bind fun r=>cond r.1 (ev pol Φ ρ m a r.2) (ev pol Φ ρ m b r.2)
 |.cmp op a b,σ=>(ev pol Φ ρ false a σ).bind fun r=>(ev pol Φ ρ false b r.2).bind fun q=>
  Ac ((pk q.2 r.1).bind fun x=>(pk q.2 q.1).bind fun y=>(cmpP op x y).map fun z=>(.v (.bool z),q.2))
 |.callF f es,σ=>(evs pol Φ ρ es σ).bind fun r=>A1 pol Φ f m r.1 r.2
 |.callC c es,σ=>(evs pol Φ ρ es σ).bind fun r=>Cd pol Φ c m r.1 r.2
 |.callB b es,σ=>(evs pol Φ ρ es σ).bind fun r=>Ac (callB b m r.1 r.2)
 |.meth k o es,σ=>(ev pol Φ ρ false o σ).bind fun r=>match tyOf r.2 r.1 with
  |some t=>if okM k t=true then(evs pol Φ ρ es r.2).bind fun q=>@ite _ (tyOf q.2 r.1=some t) (Wb _ _) (Ac (Ih k r.1 q.1 q.2)) .stk else .stk
  |none=>.stk
 |.methF f nm o es,σ=>(ev pol Φ ρ false o σ).bind fun r=>match r.1 with
  |.h n=>match r.2[n]? with
   |some (.inst 1 fs)=>if(look nm fs).isNone then(evs pol Φ ρ es r.2).bind fun q=>Φ f (.h n::q.1) q.2 else .stk
   |_=>.stk
  |_=>.stk
 |.sdApp o k d i,σ=>(ev pol Φ ρ false o σ).bind fun r=>match getV ρ d i with
  |some (.v x)=>@ite _ (tyOf r.2 r.1=some .dict) (Wb _ _) ((ev pol Φ ρ false k r.2).bind fun q=>Ac ((sdApp r.1 q.1 x q.2).map fun σ'=>(.v .none,σ'))) .stk
  |_=>.stk
 |.attr o a,σ=>(ev pol Φ ρ false o σ).bind fun r=>Ac ((T0 r.1 a r.2).bind fun x=>if rawV x then none else some (norm r.2 x,r.2))
 |.sub o i,σ=>(ev pol Φ ρ false o σ).bind fun r=>(ev pol Φ ρ false i r.2).bind fun q=>
  Ac ((pk q.2 r.1).bind fun x=>(pk q.2 q.1).bind fun y=>(subP x y).map fun z=>(.v z,q.2))
 |.slcTo o i,σ=>(ev pol Φ ρ false o σ).bind fun r=>(ev pol Φ ρ false i r.2).bind fun q=>match q.1 with
  |.v (.int j)=>Ac ((pk q.2 r.1).bind fun x=>slcP none (some j) x m q.2)
  |_=>.stk
 |.slcFrom o i,σ=>(ev pol Φ ρ false o σ).bind fun r=>(ev pol Φ ρ false i r.2).bind fun q=>match q.1 with
  |.v (.int j)=>Ac ((pk q.2 r.1).bind fun x=>slcP (some j) none x m q.2)
  |_=>.stk
 |.slcRev o,σ=>(ev pol Φ ρ false o σ).bind fun r=>Ac ((pk r.2 r.1).bind fun x=>match x with
  |.lst xs=>if small xs.length then some (mk m xs.reverse r.2)else none
  |_=>none)
 |.comp elt it ifs nv,σ=>(ev pol Φ ρ false it σ).bind fun r=>Dt (fun xs σ1=>O9 m xs (Jx (fun y σ=>E9 pol Φ ((some (Val.v y)::List.replicate nv none)::ρ) ifs σ) (fun y σ=>ev pol Φ ((some (Val.v y)::List.replicate nv none)::ρ) false elt σ) xs [] σ1)) (frz r.2 r.1)
 |.fstr es,σ=>(evT pol Φ ρ es σ).bind fun r=>if small r.1.length then .ok (.v (.str r.1),r.2)else .stk
 |.dead,_=>.stk
noncomputable def evs(pol:Pol)(Φ:Phi)(ρ:PEnv):CEs→Sto→Res (List Val×Sto)
 |.nil,σ=>.ok ([],σ)
 |.cons e r,σ=>(ev pol Φ ρ false e σ).bind fun a=>(evs pol Φ ρ r a.2).bind fun b=>.ok (a.1::b.1,b.2)
noncomputable def evBo(pol:Pol)(Φ:Phi)(ρ:PEnv)(k:Bool):CEs→Sto→Res (Val×Sto)
 |.nil,σ=>.ok (.v (.bool k),σ)
 |.cons e r,σ=>(Ar (ev pol Φ ρ false e σ)).bind fun a=>if a.1=k then evBo pol Φ ρ k r a.2 else .ok (.v (.bool a.1),a.2)
noncomputable def evT(pol:Pol)(Φ:Phi)(ρ:PEnv):CEs→Sto→Res (Cs×Sto)
 |.nil,σ=>.ok ([],σ)
 |.cons e r,σ=>((ev pol Φ ρ false e σ).bind Ko).bind fun q=>(evT pol Φ ρ r q.2).bind fun b=>.ok (q.1++b.1,b.2)
noncomputable def E9(pol:Pol)(Φ:Phi)(ρ:PEnv):CEs→Sto→Res (Bool×Sto)
 |.nil,σ=>.ok (true,σ)
 |.cons e r,σ=>(Ar (ev pol Φ ρ false e σ)).bind fun a=>cond a.1 (E9 pol Φ ρ r a.2) (.ok (false,a.2))
end
noncomputable abbrev ResS:=Res (Fl×PEnv×Sto)
noncomputable def flK(k:PEnv→Sto→ResS)(r:Fl×PEnv×Sto):ResS:=match r.1 with
 |.next=>k r.2.1 r.2.2
 |.ret v=>.ok (.ret v,r.2.1,r.2.2)
noncomputable def forL(body:PV→PEnv→Sto→ResS):List PV→PEnv→Sto→ResS
 |[],ρ,σ=>.ok (.next,ρ,σ)
 |x::xs,ρ,σ=>(body x ρ σ).bind fun r=>flK (fun ρ σ=>forL body xs ρ σ) r
section
variable {body:PV→PEnv→Sto→ResS} {x:PV} {xs:List PV} {ρ:PEnv} {σ:Sto}
theorem A18:forL body (x::xs) ρ σ=(body x ρ σ).bind fun r=>flK (fun ρ σ=>forL body xs ρ σ) r:=rfl
end
noncomputable def whlN(test:PEnv→Sto→Res (Bool×Sto))(body:PEnv→Sto→ResS):Nat→PEnv→Sto→ResS
 |0,_,_=>.stk
 |n+1,ρ,σ=>(test ρ σ).bind fun c=>cond c.1 ((body ρ c.2).bind fun r=>flK (fun ρ σ=>whlN test body n ρ σ) r) (.ok (.next,ρ,c.2))
noncomputable def FUEL:Nat:=64
noncomputable def tryE(ρ:PEnv):PV→ResS
 |.str m=>.ok (.ret (.v (.str m)),ρ.map (fun row=>row.map fun J=>none),[])
 |_=>.stk
noncomputable def tryK(ρ:PEnv):Res (Val×Sto)→ResS
 |.ok r=>.ok (.ret r.1,ρ,r.2)
 |.exc m=>tryE ρ m
 |.stk=>.stk
noncomputable def tryS(r:ResS):Sto→ResS
 |[]=>r
 |_::_=>.stk
noncomputable def augB(i:Nat)(op:Bop)(a:Int)(ρ:PEnv)(q:Val×Sto):ResS:=match q.1 with
 |.v (.int b)=>Ac ((binP op false (.int a) (.int b) q.2).map fun q=>(.next,setV ρ i q.1,q.2))
 |_=>.stk
noncomputable def augK(r:Res (Val×Sto))(i:Nat)(op:Bop)(ρ:PEnv):Option Val→ResS
 |some (.v (.int a))=>r.bind (augB i op a ρ)
 |_=>.stk
theorem A2l{r:Res (Val×Sto)}{i:Nat}{op:Bop}{ρ:PEnv}{o:Option Val}(h:augK r i op ρ o≠.stk):∃a,o=some (.v (.int a)):=by
 cases o with
 |none=>exact absurd rfl h
 |some v=>
  cases v with
  |h=>exact absurd rfl h
  |v y=>induction y using PV.casesOn<;>first|exact⟨_,rfl⟩|exact absurd rfl h
mutual
noncomputable def ex(pol:Pol)(Φ:Phi):CS→PEnv→Sto→ResS
 |.expr e,ρ,σ=>(ev pol Φ ρ false e σ).bind fun r=>.ok (.next,ρ,r.2)
 |.asg i m e,ρ,σ=>(ev pol Φ ρ m e σ).bind fun r=>.ok (.next,setV ρ i r.1,r.2)
 |.unp is e,ρ,σ=>(ev pol Φ ρ false e σ).bind fun r=>match r.1 with
  |.v (.lst xs)=>Ac ((Bx is xs ρ).map fun ρ'=>(.next,ρ',r.2))
  |.v (.tup xs)=>Ac ((Bx is xs ρ).map fun ρ'=>(.next,ρ',r.2))
  |_=>.stk
 |.setA o a m e,ρ,σ=>(ev pol Φ ρ m e σ).bind fun r=>(ev pol Φ ρ false o r.2).bind fun q=>Ac ((E4 q.1 a r.1 q.2).map fun σ'=>(.next,ρ,σ'))
 |.setI o i e,ρ,σ=>(ev pol Φ ρ false e σ).bind fun r=>(ev pol Φ ρ false o r.2).bind fun q=>(ev pol Φ ρ false i q.2).bind fun z=>
  Ac ((E3 q.1 z.1 r.1 z.2).map fun σ'=>(.next,ρ,σ'))
 |.aug i op e,ρ,σ=>augK (ev pol Φ ρ false e σ) i op ρ (getV ρ 0 i)
 |.ifS c t e,ρ,σ=>(Ar (ev pol Φ ρ false c σ)).bind fun r=>cond r.1 (exs pol Φ t ρ r.2) (exs pol Φ e ρ r.2)
 |.whl c b,ρ,σ=>whlN (fun ρ σ=>Ar (ev pol Φ ρ false c σ)) (fun ρ σ=>exs pol Φ b ρ σ) FUEL ρ σ|>.noX
 |.forS i it b,ρ,σ=>(ev pol Φ ρ false it σ).bind fun r=>Dt (fun xs σ1=>forL (fun y ρ σ=>exs pol Φ b (setV ρ i (.v y)) σ) xs ρ σ1) (frz r.2 r.1)
 |.forT is it b,ρ,σ=>(ev pol Φ ρ false it σ).bind fun r=>Dt (fun xs σ1=>forL (fun y ρ σ=>tupK is ρ (fun ρ'=>exs pol Φ b ρ' σ) y) xs ρ σ1) (frz r.2 r.1)
 |.ret m e,ρ,σ=>(ev pol Φ ρ m e σ).bind fun r=>.ok (.ret r.1,ρ,r.2)
 |.retN,ρ,σ=>.ok (.ret (.v .none),ρ,σ)
 |.raiseS e,ρ,σ=>(ev pol Φ ρ false e σ).bind fun r=>match r.1 with
  |.v (.str s)=>.exc (.str s)
  |_=>.stk
 |.tryR e,ρ,σ=>tryS (tryK ρ (ev pol Φ ρ false e [])) σ
 |.pass,ρ,σ=>.ok (.next,ρ,σ)
 |.dead,_,_=>.stk
noncomputable def exs(pol:Pol)(Φ:Phi):CSs→PEnv→Sto→ResS
 |.nil,ρ,σ=>.ok (.next,ρ,σ)
 |.cons s r,ρ,σ=>(ex pol Φ s ρ σ).bind fun q=>match q.1 with
  |.next=>exs pol Φ r q.2.1 q.2.2
  |.ret v=>.ok (.ret v,q.2.1,q.2.2)
end
set_option genCtorIdx false in
set_option genInjectivity false in
structure FC where
 np:Nat
 nv:Nat
 dfl:List PV
 body:CSs
noncomputable def Ey(c:FC)(vs:List Val):Option (List (Option Val)):=
 if vs.length≤c.np∧c.np≤vs.length+c.dfl.length∧c.dfl.length≤c.np then
  some (vs.map some++(c.dfl.drop (vs.length+c.dfl.length-c.np)).map (fun x=>some (.v x))++List.replicate (c.nv-c.np) none)
 else none
noncomputable def phi(pol:Pol)(codes:Nat→Option FC):Nat→Phi
 |0=>fun J J J=>.stk
 |n+1=>fun f vs σ=>match codes f with
  |none=>.stk
  |some c=>match Ey c vs with
   |none=>.stk
   |some row=>(exs pol (phi pol codes n) c.body [row] σ).bind fun r=>match r.1 with
    |.ret x=>.ok (norm r.2.2 x,r.2.2)
    |.next=>.ok (.v .none,r.2.2)
end Mine.Internal
namespace Mine.Internal
open PySem PySem.W PyProof.Rows
set_option genCtorIdx false in
set_option genInjectivity true in
inductive Gh where
 |fz (o:Obj)
 |vd (k i a:Value)
 |mu (n:Nat) (o:Obj)
noncomputable def Gh.ctorIdx(x:Gh):Nat:=Gh.casesOn x (fun J=>0) (fun J J J=>1) (fun J J=>2)
noncomputable abbrev GM:=Addr→Option Gh
set_option genCtorIdx false in
set_option genInjectivity false in
structure Wd where
 prog:Program
 w:World
 K:Frag
 base:Heap
 cls:Nat→Addr
 fns:Nat→Addr
noncomputable def sv(s:Cs):Str:=⟨s.toArray⟩
theorem Gv{a b:Cs}(h:sv a=sv b):a=b:=by
 have:=congrArg (fun x:Str=>x.cps.toList) h
 simpa[sv]using this
theorem Ir{a b:Cs}:sv a=sv b↔a=b:=⟨Gv,fun h=>by rw[h]⟩
noncomputable def lob(vs:List Value)(n:Nat):Obj:={cls:=.type "list",dict:=none,data:=.seq vs.toArray n,slots:= #[]}
noncomputable def rob(a b c:Int)(t u v:Tok):Obj:={cls:=.type "range",dict:=none,data:=.fields #[.int a t,.int b u,.int c v],slots:= #[]}
noncomputable def TupO(o:Obj)(vs:List Value):Prop:=∃n,o={cls:=.type "tuple",dict:=none,data:=.seq vs.toArray n,slots:= #[]}
noncomputable def InsO(o:Obj)(C d:Addr):Prop:=o.cls=.ref C∧o.dict=some d∧(∀c,o.data≠.cls c)
variable (W:Wd)
mutual
inductive Rv(P:GM):PV→Value→Prop
 |none:Rv P .none .none
 |bool (b:Bool):Rv P (.bool b) (.bool b)
 |int (i:Int) (t:Tok):Rv P (.int i) (.int i t)
 |str (s:Cs) (t:Tok):Rv P (.str s) (.str (sv s) t)
 |raw (v:Value):Rv P (.raw v) v
 |rng {r:Addr} {a b c:Int} {t u v:Tok}:P r=some (.fz (rob a b c t u v))→Rv P (.rng a b c) (.ref r)
 |tup {r:Addr} {o:Obj} {vs:List Value} {xs:List PV}:P r=some (.fz o)→TupO o vs→Rvs P xs vs→Rv P (.tup xs) (.ref r)
 |lst {r:Addr} {vs:List Value} {n:Nat} {xs:List PV}:P r=some (.fz (lob vs n))→Rvs P xs vs→Rv P (.lst xs) (.ref r)
 |dct {r:Addr} {o:Obj} {kvs:List (Str×Value)} {es:List (Cs×PV)}:P r=some (.fz o)→o.IsDictOf (PySem.strKind W.prog W.w) kvs→Rvd P es kvs→Rv P (.dct es) (.ref r)
 |vec {r d:Addr} {o:Obj} {k i a:PV} {k' i' a':Value}:P r=some (.fz o)→InsO o (W.cls 0) d→P d=some (.vd k' i' a')→Rv P k k'→Rv P i i'→Rv P a a'→Rv P (.vec k i a) (.ref r)
inductive Rvs(P:GM):List PV→List Value→Prop
 |nil:Rvs P [] []
 |cons {x:PV} {xs:List PV} {v:Value} {vs:List Value}:Rv P x v→Rvs P xs vs→Rvs P (x::xs) (v::vs)
inductive Rvd(P:GM):List (Cs×PV)→List (Str×Value)→Prop
 |nil:Rvd P [] []
 |cons {k:Cs} {x:PV} {es:List (Cs×PV)} {v:Value} {kvs:List (Str×Value)}:Rv P x v→Rvd P es kvs→Rvd P ((k,x)::es) ((sv k,v)::kvs)
end
inductive RvRng(P:GM)(a b c:Int):Value→Prop
 |mk {r:Addr} {t u v:Tok} (h:P r=some (.fz (rob a b c t u v))):RvRng P a b c (.ref r)
inductive RvTup(P:GM)(xs:List PV):Value→Prop
 |mk {r:Addr} {o:Obj} {vs:List Value} (h:P r=some (.fz o)) (t:TupO o vs) (q:Rvs W P xs vs):RvTup P xs (.ref r)
inductive RvLst(P:GM)(xs:List PV):Value→Prop
 |mk {r:Addr} {vs:List Value} {n:Nat} (h:P r=some (.fz (lob vs n))) (q:Rvs W P xs vs):RvLst P xs (.ref r)
inductive RvDct(P:GM)(es:List (Cs×PV)):Value→Prop
 |mk {r:Addr} {o:Obj} {kvs:List (Str×Value)} (h:P r=some (.fz o)) (d:o.IsDictOf (PySem.strKind W.prog W.w) kvs) (q:Rvd W P es kvs):RvDct P es (.ref r)
inductive RvVec(P:GM)(k i a:PV):Value→Prop
 |mk {r d:Addr} {o:Obj} {k' i' a':Value} (h:P r=some (.fz o)) (n:InsO o (W.cls 0) d) (g:P d=some (.vd k' i' a')) (x:Rv W P k k') (y:Rv W P i i') (z:Rv W P a a'):RvVec P k i a (.ref r)
noncomputable def RvI(P:GM)(x:PV)(v:Value):Prop:=match x with
 |.none=>v=.none
 |.bool b=>v=.bool b
 |.int i=>∃t,v=.int i t
 |.str s=>∃t,v=.str (sv s) t
 |.raw w=>v=w
 |.rng a b c=>RvRng P a b c v
 |.tup xs=>RvTup W P xs v
 |.lst xs=>RvLst W P xs v
 |.dct es=>RvDct W P es v
 |.vec k i a=>RvVec W P k i a v
variable {W}in
theorem Rv.inv{P:GM}{x:PV}{v:Value}(h:Rv W P x v):RvI W P x v:=by
 cases h with
 |none=>exact rfl
 |bool=>exact rfl
 |int=>exact⟨_,rfl⟩
 |str=>exact⟨_,rfl⟩
 |raw=>exact rfl
 |rng h=>exact⟨h⟩
 |tup h t q=>exact⟨h,t,q⟩
 |lst h q=>exact⟨h,q⟩
 |dct h d q=>exact⟨h,d,q⟩
 |vec h n g x y z=>exact⟨h,n,g,x,y,z⟩
inductive RvsC(P:GM)(x:PV)(xs:List PV):List Value→Prop
 |mk {v:Value} {vs:List Value} (p:Rv W P x v) (q:Rvs W P xs vs):RvsC P x xs (v::vs)
noncomputable def RvsI(P:GM)(xs:List PV)(vs:List Value):Prop:=match xs with
 |[]=>vs=[]
 |x::xs=>RvsC W P x xs vs
variable {W}in
theorem Rvs.inv{P:GM}{x:List PV}{v:List Value}(h:Rvs W P x v):RvsI W P x v:=by
 cases h with
 |nil=>exact rfl
 |cons p q=>exact⟨p,q⟩
section
variable {W:Wd} {P:GM} {α:Type} {y:PV} {u:Value} {z:α} {R:Value→Prop}
@[elab_as_elim] theorem A5j{f:Option α}(hy:Rv W P y u)(h:Nl y f=some z)(c:f=some z→R .none):R u:=by
 revert hy;refine A3x h fun h hy=>?_;cases hy.inv;exact c h
@[elab_as_elim] theorem rInt{f:Int→Option α}(hy:Rv W P y u)(h:pInt y f=some z)(c:∀i t,f i=some z→R (.int i t)):R u:=by
 revert hy;refine Lr h fun i h hy=>?_;obtain⟨t,rfl⟩:=hy.inv;exact c i t h
@[elab_as_elim] theorem rStr{f:Cs→Option α}(hy:Rv W P y u)(h:pStr y f=some z)(c:∀i t,f i=some z→R (.str (sv i) t)):R u:=by
 revert hy;refine Fk h fun i h hy=>?_;obtain⟨t,rfl⟩:=hy.inv;exact c i t h
@[elab_as_elim] theorem rLst{f:List PV→Option α}(hy:Rv W P y u)(h:pLst y f=some z)(c:∀xs r vs n,P r=some (.fz (lob vs n))→Rvs W P xs vs→f xs=some z→R (.ref r)):R u:=by
 revert hy;refine Iy h fun xs h hy=>?_;obtain⟨a,b⟩:=hy.inv;exact c _ _ _ _ a b h
@[elab_as_elim] theorem Bb{α β:Type}{p:α×β}{z:α}{y:β}{R:α→β→Prop}(h:some p=some (z,y))(c:R p.1 p.2):R z y:=by cases h;exact c
end
structure GLe(P P':GM):Prop where
 fz:∀a o,P a=some (.fz o)→P' a=some (.fz o)
 vd:∀a k i x,P a=some (.vd k i x)→P' a=some (.vd k i x)
theorem GLe.refl(P:GM):GLe P P:=⟨fun J J h=>h,fun J J J J h=>h⟩
theorem GLe.trans{P P' P'':GM}(x:GLe P P')(y:GLe P' P''):GLe P P'':=⟨fun a o h=>y.fz a o (x.fz a o h),fun a k i u h=>y.vd a k i u (x.vd a k i u h)⟩
variable {W}
theorem Rv.mono{P P':GM}(l:GLe P P'){x:PV}{v:Value}(h:Rv W P x v):Rv W P' x v:=
 Rv.rec (motive_1:=fun x v J=>Rv W P' x v) (motive_2:=fun x v J=>Rvs W P' x v) (motive_3:=fun x v J=>Rvd W P' x v) .none .bool .int .str .raw (fun h=>.rng (l.fz _ _ h)) (fun h t J r=>.tup (l.fz _ _ h) t r) (fun h J r=>.lst (l.fz _ _ h) r)
  (fun h d J r=>.dct (l.fz _ _ h) d r) (fun h o d J J J a b c=>.vec (l.fz _ _ h) o (l.vd _ _ _ _ d) a b c) .nil (fun J J a b=>.cons a b) .nil (fun J J a b=>.cons a b) h
theorem Rvs.mono{P P':GM}(l:GLe P P'){x:List PV}{v:List Value}(h:Rvs W P x v):Rvs W P' x v:=by
 induction x generalizing v with
 |nil=>cases h.inv;exact .nil
 |cons x xs ih=>obtain⟨p,q⟩:=h.inv;exact .cons (p.mono l) (ih q)
theorem Rvd.mono{P P':GM}(l:GLe P P'){x:List (Cs×PV)}{v:List (Str×Value)}(h:Rvd W P x v):Rvd W P' x v:=by
 induction x generalizing v with
 |nil=>cases h;exact .nil
 |cons x xs ih=>cases h with|cons p q=>exact .cons (p.mono l) (ih q)
inductive RV(P:GM)(η:List Addr):Val→Value→Prop
 |v {x:PV} {v:Value}:Rv W P x v→RV P η (.v x) v
 |h {n:Nat} {a:Addr}:η[n]?=some a→RV P η (.h n) (.ref a)
inductive RVs(P:GM)(η:List Addr):List Val→List Value→Prop
 |nil:RVs P η [] []
 |cons {x:Val} {xs:List Val} {v:Value} {vs:List Value}:RV (W:=W) P η x v→RVs P η xs vs→RVs P η (x::xs) (v::vs)
inductive RVH(η:List Addr)(n:Nat):Value→Prop
 |mk {a:Addr} (h:η[n]?=some a):RVH η n (.ref a)
noncomputable def RVI(W:Wd)(P:GM)(η:List Addr)(x:Val)(v:Value):Prop:=match x with
 |.v x=>Rv W P x v
 |.h n=>RVH η n v
theorem RV.inv{P:GM}{η:List Addr}{x:Val}{v:Value}(h:RV (W:=W) P η x v):RVI W P η x v:=by
 cases h with
 |v h=>exact h
 |h e=>exact⟨e⟩
inductive RVsC(W:Wd)(P:GM)(η:List Addr)(x:Val)(xs:List Val):List Value→Prop
 |mk {v:Value} {vs:List Value} (p:RV (W:=W) P η x v) (q:RVs (W:=W) P η xs vs):RVsC W P η x xs (v::vs)
noncomputable def RVsI(W:Wd)(P:GM)(η:List Addr)(xs:List Val)(vs:List Value):Prop:=match xs with
 |[]=>vs=[]
 |x::xs=>RVsC W P η x xs vs
theorem RVs.inv{P:GM}{η:List Addr}{x:List Val}{v:List Value}(h:RVs (W:=W) P η x v):RVsI W P η x v:=by
 cases h with
 |nil=>exact rfl
 |cons p q=>exact⟨p,q⟩
noncomputable def Pre(η η':List Addr):Prop:=∃l,η'=η++l
theorem Pre.refl(η:List Addr):Pre η η:=⟨[],(List.append_nil _).symm⟩
theorem Pre.trans{a b c:List Addr}(x:Pre a b)(y:Pre b c):Pre a c:=by
 obtain⟨l,rfl⟩:=x;obtain⟨l',rfl⟩:=y;exact⟨l++l',List.append_assoc ..⟩
theorem Pre.get{a b:List Addr}(x:Pre a b){n:Nat}{r:Addr}(h:a[n]?=some r):b[n]?=some r:=by
 obtain⟨l,rfl⟩:=x
 have hl:n<a.length:=by
  rcases Nat.lt_or_ge n a.length with h'|h'
  ·exact h'
  ·rw[List.getElem?_eq_none h']at h;cases h
 rw[List.getElem?_append_left hl];exact h
theorem RV.mono{P P':GM}{η η':List Addr}(l:GLe P P')(p:Pre η η'){x:Val}{v:Value}:RV (W:=W) P η x v→RV (W:=W) P' η' x v
 |.v z=>.v (z.mono l)
 |.h z=>.h (p.get z)
theorem RVs.mono{P P':GM}{η η':List Addr}(l:GLe P P')(p:Pre η η'){x:List Val}{v:List Value}(h:RVs (W:=W) P η x v):RVs (W:=W) P' η' x v:=by
 induction x generalizing v with
 |nil=>cases h.inv;exact .nil
 |cons x xs ih=>obtain⟨a,q⟩:=h.inv;exact .cons (a.mono l p) (ih q)
inductive FldO(P:GM)(η:List Addr)(od:Obj)(fs:List (Cs×Val)):Prop
 |mk (es:Array DictEntry) (ep:Nat) (m:Str→Option Value) (a:od.data=.dict es ep) (b:StrKeys es) (c:UniqKeys es) (d:∀name,nsFind es name=m name)
  (e:∀k,look k fs=none→m (sv k)=none) (f:∀k x,look k fs=some x→∃v,m (sv k)=some v∧RV (W:=W) P η x v):FldO P η od fs
inductive RO(P:GM)(η:List Addr)(n:Nat)(a:Addr):PO→Prop
 |list {xs:List PV} {vs:List Value} {e:Nat}:P a=some (.mu n (lob vs e))→Rvs W P xs vs→RO P η n a (.list xs)
 |dict {es:List (Cs×PV)} {o:Obj} {kvs:List (Str×Value)}:P a=some (.mu n o)→o.IsDictOf (PySem.strKind W.prog W.w) kvs→Rvd W P es kvs→RO P η n a (.dict es)
 |dictl {es:List (Cs×List PV)} {o:Obj} {kvs:List (Str×Value)} {as:List Addr}:P a=some (.mu n o)→o.IsDictOf (PySem.strKind W.prog W.w) kvs→
  kvs=(es.map fun e=>sv e.1).zip (as.map Value.ref)→as.length=es.length→(a::as).Nodup→
  (∀(j:Nat) (b:Addr) (e:Cs×List PV),as[j]?=some b→es[j]?=some e→∃vs k,P b=some (.mu n (lob vs k))∧Rvs W P e.2 vs)→RO P η n a (.dictl es)
 |inst {c:Nat} {fs:List (Cs×Val)} {o od:Obj} {d:Addr}:P a=some (.mu n o)→InsO o (W.cls c) d→d≠a→P d=some (.mu n od)→FldO (W:=W) P η od fs→RO P η n a (.inst c fs)
 |froz {x:PV}:Rv W P x (.ref a)→RO P η n a (.froz x)
inductive VdH(h:Heap)(d:Addr)(k i a:Value):Prop
 |mk (m:Str→Option Value) (x0:h.Ns1 d m) (x1:m (sv cKind)=some k) (x2:m (sv cItems)=some i) (x3:m (sv cAttrs)=some a) (x4:(m (sv cShared)).isSome=true) (x5:∀y,m y≠none→y∈[sv cKind,sv cItems,sv cAttrs,sv cShared,sv cLoose]):VdH h d k i a
noncomputable def GH(h:Heap)(a:Addr):Gh→Prop
 |.fz o=>h.get? a=some o
 |.mu _ o=>h.get? a=some o
 |.vd k i x=>VdH h a k i x
structure Inv(W:Wd)(P:GM)(fr:List Env)(h:Heap):Prop where
 gh:∀a g,P a=some g→GH h a g
 base:∀a o,W.base.get? a=some o→h.get? a=some o∧(P a=none∨P a=some (.fz o))
 sys:P sysModules=none
 frames:∀env∈fr,∃L m,env.frame=some L∧env.scope.kind≠.module∧h.Ns L m∧W.base.get? L=none∧P L=none
structure SR(W:Wd)(P:GM)(η:List Addr)(σ:Sto):Prop where
 len:η.length=σ.length
 obj:∀n a po,η[n]?=some a→σ[n]?=some po→RO (W:=W) P η n a po
structure Stp(fr:List Env)(P:GM)(h:Heap)(P':GM)(h':Heap):Prop where
 le:GLe P P'
 new:∀a,P a=none→P' a≠none→h.get? a=none
 dom:∀a,P a≠none→P' a≠none
 keep:∀a o,h.get? a=some o→P a=none→∃sl,h'.get? a=some {o with slots:=sl}∧((∀env∈fr,env.frame≠some a)→sl=o.slots)
theorem Stp.refl(fr:List Env)(P:GM)(h:Heap):Stp fr P h P h:=⟨.refl P,fun J a b=>absurd a b,fun J h=>h,fun J o e J=>⟨o.slots,e,fun J=>rfl⟩⟩
theorem Stp.trans{fr:List Env}{P P' P'':GM}{h h' h'':Heap}(x:Stp fr P h P' h')(y:Stp fr P' h' P'' h''):Stp fr P h P'' h'' where
 le:=x.le.trans y.le
 new:=fun a hp hp'=>by
  by_cases q:P' a=none
  ·cases e:h.get? a with
   |none=>rfl
   |some o=>
    obtain⟨sl,e1,_⟩:=x.keep a o e hp
    have:=y.new a q hp'
    rw[e1]at this;cases this
  ·exact x.new a hp q
 dom:=fun a h=>y.dom a (x.dom a h)
 keep:=fun a o e hp=>by
  obtain⟨sl,e1,k1⟩:=x.keep a o e hp
  have hp':P' a=none:=by
   by_cases q:P' a=none
   ·exact q
   ·have:=x.new a hp q;rw[e]at this;cases this
  obtain⟨sl',e2,k2⟩:=y.keep a _ e1 hp'
  exact⟨sl',e2,fun hf=>(k2 hf).trans (k1 hf)⟩
theorem Ij{h h':Heap}{L:Addr}{m:Str→Option Value}(x:h.Ns L m)(e:∀o,h.get? L=some o→∃sl,h'.get? L=some {o with slots:=sl}):h'.Ns L m:=by
 obtain⟨o,es,ep,ho,hd,r⟩:=x
 obtain⟨sl,e1⟩:=e o ho
 exact⟨_,es,ep,e1,hd,r⟩
theorem Stp.none'{fr:List Env}{P P':GM}{h h':Heap}(x:Stp fr P h P' h'){a:Addr}{o:Obj}(hp:P a=none)(e:h.get? a=some o):P' a=none:=by
 by_cases q:P' a=none
 ·exact q
 ·have:=x.new a hp q;rw[e]at this;cases this
theorem Inv.step{P P':GM}{fr:List Env}{h h':Heap}(I:Inv W P fr h)(x:Stp fr P h P' h')(g:∀a u,P' a=some u→GH h' a u)(hs:∃o,W.base.get? sysModules=some o):Inv W P' fr h' where
 gh:=g
 base:=fun a o e=>by
  obtain⟨e1,hp⟩:=I.base a o e
  rcases hp with hp|hp
  ·obtain⟨sl,e2,k⟩:=x.keep a o e1 hp
   have hsl:sl=o.slots:=k fun env he hf=>by
    obtain⟨L,m,hL,_,_,hb,_⟩:=I.frames env he
    rw[hf]at hL;cases hL
    rw[e]at hb;cases hb
   subst hsl
   exact⟨e2,.inl (x.none' hp e1)⟩
  ·exact⟨g a _ (x.le.fz a o hp),.inr (x.le.fz a o hp)⟩
 sys:=by
  obtain⟨o,e⟩:=hs
  exact x.none' I.sys (I.base _ _ e).1
 frames:=fun env he=>by
  refine(let GG:=_;(?_:GG))
  obtain⟨L,m,hL,hk,hn,hb,hp⟩:=I.frames env he
  obtain⟨o,_,_,ho,_⟩:=id hn
  refine⟨L,m,hL,hk,Ij hn (fun o e=>let⟨sl,e1,_⟩:=x.keep L o e hp;⟨sl,e1⟩),hb,x.none' hp ho⟩
noncomputable def vis(P:GM):GM:=fun a=>match P a with
 |some (.mu _ o)=>some (.fz o)
 |g=>g
theorem Ef(P:GM):GLe P (vis P):=⟨fun a o h=>by simp[vis,h],fun a k i x h=>by simp[vis,h]⟩
theorem Ol{P:GM}{a:Addr}{n:Nat}{o:Obj}(h:P a=some (.mu n o)):vis P a=some (.fz o):=by simp[vis,h]
theorem Yl{P:GM}{a:Addr}(h:P a=none):vis P a=none:=by simp[vis,h]
end Mine.Internal
namespace Mine.Internal
open PySem PySem.W PyProof.Rows PySem.SeqAt
variable {W:Wd} {P:GM}
theorem Gi{f:PV→PV→Option Bool}{x y:PV}{xs ys:List PV}{c:Bool}(h:all2 f (x::xs) (y::ys)=some c):∃a b,f x y=some a∧all2 f xs ys=some b∧c=(a&&b):=A2n h
theorem Nq{x y:PV}{ys:List PV}{c:Bool}(h:memP x (y::ys)=some c):∃a b,eqP y x=some a∧memP x ys=some b∧c=(a||b):=A3s h
theorem Rvs.length{xs:List PV}{vs:List Value}(h:Rvs W P xs vs):xs.length=vs.length:=by
 induction xs generalizing vs with
 |nil=>cases h;rfl
 |cons x xs ih=>cases h with|cons _ r=>simp[ih r]
theorem Rvs.get{xs:List PV}{vs:List Value}(h:Rvs W P xs vs):∀{j:Nat} {x:PV},xs[j]?=some x→∃v,vs[j]?=some v∧Rv W P x v:=by
 induction xs generalizing vs with
 |nil=>intro j x e;simp at e
 |cons y xs ih=>cases h with
  |cons a r=>intro j x e;induction j using Nat.casesOn with
   |zero=>simp at e;subst e;exact⟨_,rfl,a⟩
   |succ j=>simp at e;obtain⟨v,hv,hr⟩:=ih r e;exact⟨v,by simpa using hv,hr⟩
theorem Na{o:Obj}{vs vs':List Value}(t1:TupO o vs)(t2:TupO o vs'):vs=vs':=by
 obtain⟨n1,e1⟩:=t1
 obtain⟨n2,e2⟩:=t2
 rw[e1]at e2
 exact congrArg Array.toList (PySem.Data.seq.inj (Obj.mk.inj e2).2.2.1).1
theorem TupO.cls{o:Obj}{vs:List Value}(t:TupO o vs):o.cls=.type "tuple":=by obtain⟨n,rfl⟩:=t;rfl
theorem Rq{vs vs':List Value}{n n':Nat}(h:lob vs n=lob vs' n'):vs=vs':=
 congrArg Array.toList (PySem.Data.seq.inj (Obj.mk.inj h).2.2.1).1
noncomputable def sc:PV→Bool
 |.none=>true
 |.bool _=>true
 |.int _=>true
 |.str _=>true
 |_=>false
noncomputable def Aav:Value→PV
 |.bool b=>.bool b
 |.int i _=>.int i
 |.str s _=>.str s.cps.toList
 |_=>.none
theorem Kg{x:PV}{v:Value}(h:sc x=true)(r:Rv W P x v):Aav v=x:=by
 induction x using PV.casesOn<;>first|exact nf h|skip
 ·cases r.inv;rfl
 ·cases r.inv;rfl
 ·obtain⟨t,rfl⟩:=r.inv;rfl
 ·obtain⟨t,rfl⟩:=r.inv;rfl
inductive EqH(d:Nat):PV→PV→Bool→Prop
 |sc {x z:PV} {a:Bool}:sc x=true→sc z=true→eq0 x z=some a→EqH d x z a
 |tup {d':Nat} {xs zs:List PV} {a:Bool}:d=d'+1→all2 (eqPd d') xs zs=some a→EqH d (.tup xs) (.tup zs) a
 |lst {d':Nat} {xs zs:List PV} {a:Bool}:d=d'+1→all2 (eqPd d') xs zs=some a→EqH d (.lst xs) (.lst zs) a
theorem A1k{x z:PV}{a:Bool}(h:eq0 x z=some a):sc x=true∧sc z=true:=by
 induction x using PV.casesOn<;>first|exact nfo h|skip
 ·induction z using PV.casesOn<;>first|exact nfo h|exact⟨rfl,rfl⟩
 ·exact Ht h fun J J=>⟨rfl,rfl⟩
 ·induction z using PV.casesOn<;>first|exact nfo h|exact⟨rfl,rfl⟩
 ·induction z using PV.casesOn<;>first|exact nfo h|exact⟨rfl,rfl⟩
theorem eqH{d:Nat}{x z:PV}{a:Bool}(h:eqPd d x z=some a):EqH d x z a:=by
 have p:eq0 x z=some a→EqH d x z a:=fun h=>.sc (A1k h).1 (A1k h).2 h
 induction d using Nat.casesOn with
 |zero=>exact p h
 |succ d=>induction x using PV.casesOn with
  |tup xs=>exact Zu h fun zs h=>.tup rfl h
  |lst xs=>exact Iy h fun zs h=>.lst rfl h
  |_=>exact p h
theorem A1j{x:PV}(h:sc x=true):eq0 x x=some true:=by
 induction x using PV.casesOn<;>first|exact nf h|skip
 ·rfl
 ·exact congrArg some (beq_self_eq_true _)
 ·exact congrArg some (decide_eq_true rfl)
 ·exact congrArg some (decide_eq_true rfl)
noncomputable def Wo(W:Wd)(P:GM)(d:Nat):Prop:=∀(x y z:PV) {v:Value} {a b:Bool},Rv W P x v→Rv W P y v→eqPd d x z=some a→eqPd d y z=some b→a=b
theorem Nu{d:Nat}(ih:Wo W P d){zs xs ys:List PV}{vs:List Value}{a b:Bool}(r1:Rvs W P xs vs)(r2:Rvs W P ys vs)(ha:all2 (eqPd d) xs zs=some a)(hb:all2 (eqPd d) ys zs=some b):a=b:=by
 induction zs generalizing xs ys vs a b with
 |nil=>cases vs with
  |nil=>cases r1;cases r2;exact Option.some.inj (ha.symm.trans hb)
  |cons=>cases r1;cases r2;exact(Option.some.inj ha).symm.trans (Option.some.inj hb)
 |cons z zs iz=>cases vs with
  |nil=>cases r1;cases r2;exact Option.some.inj (ha.symm.trans hb)
  |cons=>cases r1 with|cons p1 q1=>cases r2 with|cons p2 q2=>
   obtain⟨a1,a2,e1,e2,rfl⟩:=Gi ha
   obtain⟨b1,b2,f1,f2,rfl⟩:=Gi hb
   rw[ih _ _ z p1 p2 e1 f1,iz q1 q2 e2 f2]
theorem S6{d:Nat}(ih:∀d',d=d'+1→Wo W P d'):Wo W P d:=by
 intro x y z v a b hx hy ha hb
 refine(let GG:=_;(?_:GG))
 cases eqH ha with
 |sc s1 s2 e1=>cases eqH hb with
  |sc s3 _ _=>
   obtain rfl:x=y:=(Kg s1 hx).symm.trans (Kg s3 hy)
   exact Option.some.inj (ha.symm.trans hb)
  |tup=>exact nf s2
  |lst=>exact nf s2
 |tup q e1=>cases eqH hb with
  |sc _ s _=>exact nf s
  |tup q2 e2=>
   obtain⟨h1,t1,r1⟩:=hx.inv
   obtain⟨h2,t2,r2⟩:=hy.inv
   cases h1.symm.trans h2
   cases Nat.succ.inj (q.symm.trans q2)
   exact Nu (ih _ q) r1 (Na t1 t2▸r2) e1 e2
 |lst q e1=>cases eqH hb with
  |sc _ s _=>exact nf s
  |lst q2 e2=>
   obtain⟨h1,r1⟩:=hx.inv
   obtain⟨h2,r2⟩:=hy.inv
   cases Nat.succ.inj (q.symm.trans q2)
   exact Nu (ih _ q) r1 (Rq (Gh.fz.inj (Option.some.inj (h1.symm.trans h2)))▸r2) e1 e2
theorem Fu(d:Nat):Wo W P d:=by
 induction d with
 |zero=>
  exact S6 fun J h=>nomatch h
 |succ d ih=>
  exact S6 fun d' h=>by cases Nat.succ.inj h;exact ih
noncomputable def Qn(W:Wd)(P:GM)(d:Nat):Prop:=∀(x y:PV) {v:Value} {a:Bool},Rv W P x v→Rv W P y v→eqPd d x y=some a→a=true
theorem M2{d:Nat}(ih:Qn W P d){xs ys:List PV}{vs:List Value}{a:Bool}(r1:Rvs W P xs vs)(r2:Rvs W P ys vs)(ha:all2 (eqPd d) xs ys=some a):a=true:=by
 induction vs generalizing xs ys a with
 |nil=>cases r1;cases r2;exact(Option.some.inj ha).symm
 |cons v vs iv=>cases r1 with|cons p1 q1=>cases r2 with|cons p2 q2=>
  obtain⟨a1,a2,e1,e2,rfl⟩:=Gi ha
  rw[ih _ _ p1 p2 e1,iv q1 q2 e2];rfl
theorem Ng{d:Nat}(ih:∀d',d=d'+1→Qn W P d'):Qn W P d:=by
 intro x y v a hx hy ha
 cases eqH ha with
 |sc s1 s2 e1=>
  obtain rfl:x=y:=(Kg s1 hx).symm.trans (Kg s2 hy)
  exact Option.some.inj (e1.symm.trans (A1j s1))
 |tup q e1=>
  obtain⟨h1,t1,r1⟩:=hx.inv
  obtain⟨h2,t2,r2⟩:=hy.inv
  cases h1.symm.trans h2
  exact M2 (ih _ q) r1 (Na t1 t2▸r2) e1
 |lst q e1=>
  obtain⟨h1,r1⟩:=hx.inv
  obtain⟨h2,r2⟩:=hy.inv
  exact M2 (ih _ q) r1 (Rq (Gh.fz.inj (Option.some.inj (h1.symm.trans h2)))▸r2) e1
theorem O3(d:Nat):Qn W P d:=by
 induction d with
 |zero=>
  exact Ng fun J h=>nomatch h
 |succ d ih=>
  exact Ng fun d' h=>by cases Nat.succ.inj h;exact ih
noncomputable def FzH(P:GM)(h:Heap):Prop:=∀a o,P a=some (.fz o)→h.get? a=some o
theorem FzH.list{h:Heap}(H:FzH P h){r:Addr}{vs:List Value}{n:Nat}(e:P r=some (.fz (lob vs n))):h.IsList r vs.toArray:=⟨_,H _ _ e,rfl,n,rfl⟩
theorem FzH.tup{h:Heap}(H:FzH P h){r:Addr}{o:Obj}{vs:List Value}(e:P r=some (.fz o))(t:TupO o vs):h.IsTuple r vs.toArray:=by obtain⟨n,rfl⟩:=t;exact⟨_,H _ _ e,rfl,n,rfl⟩
noncomputable def atP(f:PV→PV→Option Bool)(xs ys:List PV)(j:Nat):Bool:=match xs[j]?,ys[j]? with
 |some x,some y=>(f x y).getD false
 |_,_=>false
theorem Mn{f:PV→PV→Option Bool}:∀{xs ys:List PV} {c:Bool},all2 f xs ys=some c→((List.range (min xs.length ys.length)).all (atP f xs ys)&&xs.length==ys.length)=c∧∀j x y,xs[j]?=some x→ys[j]?=some y→∃b,f x y=some b∧atP f xs ys j=b
 |[],[],c,h=>by cases h;exact⟨rfl,fun j x y e=>nomatch List.getElem?_nil.symm.trans e⟩
 |[],_::_,c,h=>by cases h;exact⟨by simp,fun j x y e=>nomatch List.getElem?_nil.symm.trans e⟩
 |_::_,[],c,h=>by cases h;exact⟨by simp,fun j x y J e=>nomatch List.getElem?_nil.symm.trans e⟩
 |x::xs,y::ys,c,h=>by
  obtain⟨a,b,e1,e2,rfl⟩:=Gi h
  obtain⟨i1,i2⟩:=Mn e2
  refine⟨?_,fun j x' y' ex ey=>?_⟩
  ·subst i1
   have e:min (x::xs).length (y::ys).length=min xs.length ys.length+1:=Nat.succ_min_succ _ _
   rw[e,List.range_succ_eq_map,List.all_cons,List.all_map]
   have z:atP f (x::xs) (y::ys) 0=a:=congrArg (fun o:Option Bool=>o.getD false) e1
   have s:(atP f (x::xs) (y::ys)∘Nat.succ)=atP f xs ys:=funext fun J=>rfl
   rw[z,s];simp[Bool.and_assoc]
  ·induction j using Nat.casesOn with
   |zero=>cases ex;cases ey;exact⟨a,e1,congrArg (fun o:Option Bool=>o.getD false) e1⟩
   |succ j=>exact i2 j x' y' ex ey
noncomputable def Oi(A:Around)(s:Shared)(v u:Value)(b:Bool):Prop:=EqAt A s v u b∧RcAt A s v u b∧RcNeAt A s v u (!b)
theorem A58{i j:Int}:(i==j)=decide (i=j):=by rw[Bool.eq_iff_iff];simp
theorem A96{c d:Cs}:(sv c==sv d)=decide (c=d):=by rw[Bool.eq_iff_iff];simp[Ir]
theorem A8v{s:Shared}{x y:PV}{v u:Value}{b:Bool}{A:Around}(hx:Rv W P x v)(hy:Rv W P y u)(he:eq0 x y=some b):Oi A s v u b:=by
 induction x using PV.casesOn<;>first|exact nfo he|skip
 ·cases hx.inv
  cases y<;>first|exact nfo he|skip
  ·cases hy.inv;exact Option.some.inj he▸⟨EqAt.same _,RcAt.none_none,RcNeAt.none_none⟩
  ·obtain⟨t,rfl⟩:=hy.inv;exact Option.some.inj he▸⟨EqAt.none_int _ _,RcAt.none_int _ _,RcNeAt.none_int _ _⟩
  ·obtain⟨t,rfl⟩:=hy.inv;exact Option.some.inj he▸⟨EqAt.none_str _ _,RcAt.none_str _ _,RcNeAt.none_str _ _⟩
 ·cases hx.inv
  refine Ht (R:=fun y=>Rv W P y u→Oi A s _ u b) he (fun c he hy=>?_) hy
  cases hy.inv;exact Option.some.inj he▸⟨EqAt.bool_bool _ _,RcAt.bool_bool _ _,RcNeAt.bool_bool _ _⟩
 ·obtain⟨t,rfl⟩:=hx.inv
  cases y<;>first|exact nfo he|skip
  ·cases hy.inv;exact Option.some.inj he▸⟨EqAt.int_none _ _,RcAt.int_none _ _,RcNeAt.int_none _ _⟩
  ·obtain⟨t,rfl⟩:=hy.inv;exact(A58.trans (Option.some.inj he))▸⟨EqAt.int_int _ _ _ _,RcAt.int_int _ _ _ _,RcNeAt.int_int _ _ _ _⟩
  ·obtain⟨t,rfl⟩:=hy.inv;exact Option.some.inj he▸⟨EqAt.int_str _ _ _ _,RcAt.int_str _ _ _ _,RcNeAt.int_str _ _ _ _⟩
 ·obtain⟨t,rfl⟩:=hx.inv
  cases y<;>first|exact nfo he|skip
  ·cases hy.inv;exact Option.some.inj he▸⟨EqAt.str_none _ _,RcAt.str_none _ _,RcNeAt.str_none _ _⟩
  ·obtain⟨t,rfl⟩:=hy.inv;exact Option.some.inj he▸⟨EqAt.str_int _ _ _ _,RcAt.str_int _ _ _ _,RcNeAt.str_int _ _ _ _⟩
  ·obtain⟨t,rfl⟩:=hy.inv;exact(A96.trans (Option.some.inj he))▸⟨EqAt.str_str _ _ _ _,RcAt.str_str _ _ _ _,RcNeAt.str_str _ _ _ _⟩
theorem Hy{s:Shared}{d:Nat}{A:Around}(ih:∀{x y:PV} {v u:Value} {b:Bool},Rv W P x v→Rv W P y u→eqPd d x y=some b→EqAt A s v u b){xs ys:List PV}{vs us:List Value}(r1:Rvs W P xs vs)(r2:Rvs W P ys us)
 (hb:∀j x y,xs[j]?=some x→ys[j]?=some y→∃b,eqPd d x y=some b∧atP (eqPd d) xs ys j=b) (j:Nat) (h1:j<vs.toArray.size) (h2:j<us.toArray.size):EqAt A s vs.toArray[j] us.toArray[j] (atP (eqPd d) xs ys j):=by
 obtain⟨x,ex⟩:∃x,xs[j]?=some x:=⟨_,List.getElem?_eq_getElem (r1.length▸h1)⟩
 obtain⟨y,ey⟩:∃y,ys[j]?=some y:=⟨_,List.getElem?_eq_getElem (r2.length▸h2)⟩
 obtain⟨b',q1,q2⟩:=hb j x y ex ey
 obtain⟨v',g1,w1⟩:=r1.get ex
 obtain⟨u',g2,w2⟩:=r2.get ey
 have e1:vs.toArray[j]=v':=Option.some.inj ((List.getElem?_eq_getElem h1).symm.trans g1)
 have e2:us.toArray[j]=u':=Option.some.inj ((List.getElem?_eq_getElem h2).symm.trans g2)
 rw[q2,e1,e2]
 exact ih w1 w2 q1
theorem A2v{s:Shared}(H:FzH P s.heap){d:Nat}{A:Around}(hu:A.units<cLine){xs ys:List PV}{ra rb:Addr}{oa ob:Obj}{va vb:List Value}{b:Bool}(ih:∀{x y:PV} {v u:Value} {b:Bool},Rv W P x v→Rv W P y u→eqPd d x y=some b→EqAt A.in1 s v u b)
 (h1:P ra=some (.fz oa)) (t1:TupO oa va) (r1:Rvs W P xs va) (h2:P rb=some (.fz ob)) (t2:TupO ob vb) (r2:Rvs W P ys vb) (he:all2 (eqPd d) xs ys=some b):Oi A s (.ref ra) (.ref rb) b:=by
 obtain⟨q1,q2⟩:=Mn he
 have e:((List.range (min va.toArray.size vb.toArray.size)).all (atP (eqPd d) xs ys)&&va.toArray.size==vb.toArray.size)=b:=by
  show((List.range (min va.length vb.length)).all (atP (eqPd d) xs ys)&&va.length==vb.length)=b
  rw[←r1.length,←r2.length];exact q1
 have hR:RcAt A s (.ref ra) (.ref rb) b:=e▸RcAt.tuples (H.tup h1 t1) (H.tup h2 t2) hu (Hy ih r1 r2 q2)
 have hN:RcNeAt A s (.ref ra) (.ref rb) (!b):=e▸RcNeAt.tuples (H.tup h1 t1) (H.tup h2 t2) hu (Hy ih r1 r2 q2)
 refine⟨?_,hR,hN⟩
 by_cases hab:ra=rb
 ·subst hab
  rw[show b=true from O3 (d+1) _ _ (Rv.tup h1 t1 r1) (Rv.tup h2 t2 r2) he]
  exact EqAt.same _
 ·exact EqAt.of_refs hab hR
theorem A47{s:Shared}(H:FzH P s.heap){d:Nat}{A:Around}(hu:A.units<cLine){xs ys:List PV}{ra rb:Addr}{na nb:Nat}{va vb:List Value}{b:Bool}(ih:∀{x y:PV} {v u:Value} {b:Bool},Rv W P x v→Rv W P y u→eqPd d x y=some b→EqAt A.in1 s v u b)
 (h1:P ra=some (.fz (lob va na))) (r1:Rvs W P xs va) (h2:P rb=some (.fz (lob vb nb))) (r2:Rvs W P ys vb) (he:all2 (eqPd d) xs ys=some b):Oi A s (.ref ra) (.ref rb) b:=by
 obtain⟨q1,q2⟩:=Mn he
 have both:RcAt A s (.ref ra) (.ref rb) b∧RcNeAt A s (.ref ra) (.ref rb) (!b):=by
  by_cases hl:xs.length=ys.length
  ·have hsz:va.toArray.size=vb.toArray.size:=(r1.length.symm.trans hl).trans r2.length
   have e:(List.range va.toArray.size).all (atP (eqPd d) xs ys)=b:=by
    show(List.range va.length).all _=b
    rw[hl,Nat.min_self,beq_self_eq_true,Bool.and_true]at q1
    rw[←r1.length,hl];exact q1
   exact⟨e▸RcAt.lists (H.list h1) (H.list h2) hsz hu (Hy ih r1 r2 q2),e▸RcNeAt.lists (H.list h1) (H.list h2) hsz hu (Hy ih r1 r2 q2)⟩
  ·have hb:b=false:=by rw[←q1,beq_eq_false_iff_ne.mpr hl,Bool.and_false]
   have hsz:(va.toArray.size !=vb.toArray.size)=true:=bne_iff_ne.mpr fun q=>hl ((r1.length.trans q).trans r2.length.symm)
   exact hb▸⟨RcAt.lists_lengths (H.list h1) (H.list h2) hsz hu,RcNeAt.lists_lengths (H.list h1) (H.list h2) hsz hu⟩
 refine⟨?_,both⟩
 by_cases hab:ra=rb
 ·subst hab
  rw[show b=true from O3 (d+1) _ _ (Rv.lst h1 r1) (Rv.lst h2 r2) he]
  exact EqAt.same _
 ·exact EqAt.of_refs hab both.1
theorem Wj{s:Shared}(H:FzH P s.heap){d:Nat}{A:Around}(hu:A.units<cLine)(ih:∀d',d=d'+1→∀{x y:PV} {v u:Value} {b:Bool},Rv W P x v→Rv W P y u→eqPd d' x y=some b→EqAt A.in1 s v u b)
 {x y:PV} {v u:Value} {b:Bool} (hx:Rv W P x v) (hy:Rv W P y u) (he:eqPd d x y=some b):Oi A s v u b:=by
 cases eqH he with
 |sc _ _ e=>exact A8v hx hy e
 |tup q e=>
  obtain⟨h1,t1,r1⟩:=hx.inv
  obtain⟨h2,t2,r2⟩:=hy.inv
  exact A2v H hu (ih _ q) h1 t1 r1 h2 t2 r2 e
 |lst q e=>
  obtain⟨h1,r1⟩:=hx.inv
  obtain⟨h2,r2⟩:=hy.inv
  exact A47 H hu (ih _ q) h1 r1 h2 r2 e
theorem Ge{s:Shared}(H:FzH P s.heap):∀(d:Nat) {x y:PV} {v u:Value} {b:Bool} {A:Around},A.units+d<cLine→Rv W P x v→Rv W P y u→eqPd d x y=some b→Oi A s v u b
 |0,_,_,_,_,_,_,hu=>Wj (d:=0) H hu fun J h=>absurd h.symm (Nat.succ_ne_zero _)
 |d+1,_,_,_,_,_,A,hu=>Wj (d:=d+1) H (by omega) fun d' h x y v u b hx hy he=>by
  cases Nat.succ.inj h
  exact(Ge H d (A:=A.in1) (by show A.units+1+d<cLine;omega) hx hy he).1
section
variable {A:Around} {E:Value→Shared→Prop} {s:Shared}
theorem Aaj(H:FzH P s.heap){x y:PV}{v u:Value}{b:Bool}{Q:Value→Shared→Prop}(hu:A.units+8<cLine)(hx:Rv W P x v)(hy:Rv W P y u)(he:eqP x y=some b)(h:Q (.bool b) s):
 wpAny (model W.prog W.w) A (compareOp .Eq v u) Q E s:=(Ge H 4 (by omega) hx hy he).2.1 W.prog W.w E Q h
theorem Aa1(H:FzH P s.heap){x y:PV}{v u:Value}{b:Bool}{Q:Value→Shared→Prop}(hu:A.units+8<cLine)(hx:Rv W P x v)(hy:Rv W P y u)(he:eqP x y=some b)(h:Q (.bool (!b)) s):
 wpAny (model W.prog W.w) A (compareOp .NotEq v u) Q E s:=(Ge H 4 (by omega) hx hy he).2.2 W.prog W.w E Q h
theorem A0b(H:FzH P s.heap)(hu:A.units+8<cLine){x:PV}{u:Value}(hx:Rv W P x u):∀{ys:List PV} {vs:List Value} {b:Bool},Rvs W P ys vs→memP x ys=some b→
 ∃e:Value→Bool,vs.toArray.any e=b∧(∀y∈vs.toArray,EqAt A.in1 s y u (e y)):=by
 intro ys vs b r hm
 classical
 have key:∀(ys:List PV) (vs:List Value) (b:Bool),Rvs W P ys vs→memP x ys=some b→
  (∀v∈vs,∃y c,Rv W P y v∧eqP y x=some c)∧(b=true↔∃v∈vs,∃y,Rv W P y v∧eqP y x=some true):=by
  intro ys
  induction ys with
  |nil=>intro vs b r hm;cases r;cases hm;simp
  |cons y ys ih=>
   intro vs b r hm
   cases r with
   |cons p q=>
    obtain⟨a,c,e1,e2,rfl⟩:=Nq hm
    obtain⟨i1,i2⟩:=ih _ _ q e2
    refine⟨fun v hv=>?_,?_⟩
    ·rcases List.mem_cons.mp hv with rfl|hv
     ·exact⟨y,a,p,e1⟩
     ·exact i1 v hv
    ·rw[Bool.or_eq_true,i2]
     constructor
     ·rintro(ha|⟨v,hv,z,hz,ez⟩)
      ·exact⟨_,List.mem_cons_self,y,p,by rw[e1,ha]⟩
      ·exact⟨v,List.mem_cons_of_mem _ hv,z,hz,ez⟩
     ·rintro⟨v,hv,z,hz,ez⟩
      rcases List.mem_cons.mp hv with rfl|hv
      ·left;exact Fu 4 y z x p hz e1 ez
      ·right;exact⟨v,hv,z,hz,ez⟩
 obtain⟨k1,k2⟩:=key ys vs b r hm
 refine⟨fun v=>decide (∃y,Rv W P y v∧eqP y x=some true),?_,fun v hv=>?_⟩
 ·rw[Bool.eq_iff_iff,k2]
  simp[List.any_eq_true]
 ·refine(let GG:=_;(?_:GG))
  obtain⟨y,c,hy,e⟩:=k1 v (by simpa using hv)
  have:decide (∃y,Rv W P y v∧eqP y x=some true)=c:=by
   induction c using Bool.casesOn with
   |true=>exact decide_eq_true ⟨y,hy,e⟩
   |false=>exact decide_eq_false fun⟨z,hz,ez⟩=>by have:=Fu 4 y z x hy hz e ez;cases this
  show EqAt A.in1 s v u (decide (∃y,Rv W P y v∧eqP y x=some true))
  rw[this]
  exact(Ge H 4 (A:=A.in1) (by show A.units+1+4<cLine;omega) hy hx e).1
theorem A8b(H:FzH P s.heap)(hu:A.units+8<cLine){x:PV}{u:Value}{ys:List PV}{v:Value}{b:Bool}{Q:Value→Shared→Prop}(hx:Rv W P x u)(hy:Rv W P (.lst ys) v)(hm:memP x ys=some b):
 (Q (.bool b) s→wpAny (model W.prog W.w) A (compareOp .In u v) Q E s)∧(Q (.bool (!b)) s→wpAny (model W.prog W.w) A (compareOp .NotIn u v) Q E s):=by
 refine(let GG:=_;(?_:GG))
 cases hy with
 |lst h1 r1=>
  obtain⟨e,q1,q2⟩:=A0b H hu hx r1 hm
  exact⟨fun h=>in_listAt e (H.list h1) q2 (by rw[q1];exact h),fun h=>notIn_listAt e (H.list h1) q2 (by rw[q1];exact h)⟩
theorem A8a(H:FzH P s.heap)(hu:A.units+8<cLine){x:PV}{u:Value}{ys:List PV}{v:Value}{b:Bool}{Q:Value→Shared→Prop}(hx:Rv W P x u)(hy:Rv W P (.tup ys) v)(hm:memP x ys=some b):
 (Q (.bool b) s→wpAny (model W.prog W.w) A (compareOp .In u v) Q E s)∧(Q (.bool (!b)) s→wpAny (model W.prog W.w) A (compareOp .NotIn u v) Q E s):=by
 refine(let GG:=_;(?_:GG))
 cases hy with
 |tup h1 t1 r1=>
  obtain⟨e,q1,q2⟩:=A0b H hu hx r1 hm
  exact⟨fun h=>in_tupleAt e (H.tup h1 t1) q2 (by rw[q1];exact h),fun h=>notIn_tupleAt e (H.tup h1 t1) q2 (by rw[q1];exact h)⟩
end
end Mine.Internal
namespace Mine.Internal
open PySem PySem.W PyProof.Rows PySem.SeqAt
variable {W:Wd} {P:GM}
noncomputable def cop:Cop→CmpOp
 |.eq=>.Eq|.ne=>.NotEq|.lt=>.Lt|.le=>.LtE|.gt=>.Gt|.ge=>.GtE|.is=>.Is|.isNot=>.IsNot|.isIn=>.In|.notIn=>.NotIn
set_option tactic.hygienic true in
theorem V8{es:List (Cs×PV)}{kvs:List (Str×Value)}(r:Rvd W P es kvs)(k:Cs):match look k es with
 |none=>valueAt kvs (sv k)=none
 |some x=>∃v,valueAt kvs (sv k)=some v∧Rv W P x v:=by
 induction es generalizing kvs with
 |nil=>cases r;exact(rfl:valueAt ([]:List (Str×Value)) (sv k)=none)
 |cons e es ih=>
  cases r with
  |cons p q=>
   rename_i k' x v kvs'
   have ih':=ih q
   rw[Cp]
   by_cases hk:k'=k
   ·subst hk
    simp -iota only[if_true]
    exact⟨v,by simp -iota [valueAt],p⟩
   ·simp -iota only[hk,if_false]
    have e:valueAt ((sv k',v)::kvs') (sv k)=valueAt kvs' (sv k):=by
     simp -iota [valueAt,List.find?_cons,Ir,hk]
    rw[e];exact ih'
theorem T2{es:List (Cs×PV)}{kvs:List (Str×Value)}(r:Rvd W P es kvs){k:Cs}(h:look k es=none):valueAt kvs (sv k)=none:=by
 have:=V8 r k;rw[h]at this;exact this
theorem Mp{es:List (Cs×PV)}{kvs:List (Str×Value)}(r:Rvd W P es kvs){k:Cs}{x:PV}(h:look k es=some x):∃v,valueAt kvs (sv k)=some v∧Rv W P x v:=by
 have:=V8 r k;rw[h]at this;exact this
theorem V7{es:List (Cs×PV)}{kvs:List (Str×Value)}(r:Rvd W P es kvs)(k:Cs):(valueAt kvs (sv k)).isSome=(look k es).isSome:=by
 have:=V8 r k
 cases h:look k es with
 |none=>rw[h]at this;simp only at this;rw[this];rfl
 |some x=>rw[h]at this;obtain⟨v,e,_⟩:=this;rw[e];rfl
section
variable {A:Around} {E:Value→Shared→Prop} {s:Shared}
theorem FzH.dct{h:Heap}(H:FzH P h){r:Addr}{o:Obj}{kvs:List (Str×Value)}(e:P r=some (.fz o))(d:o.IsDictOf (PySem.strKind W.prog W.w) kvs):h.DictOf (PySem.strKind W.prog W.w) r kvs:=
 Heap.dictOf_iff.mpr ⟨o,H _ _ e,d⟩
theorem J2{a:Addr}{g:Gh}(hs:P sysModules=none)(e:P a=some g):(a==sysModules)=false:=by
 simp -iota only[beq_eq_false_iff_ne,ne_eq]
 rintro rfl;rw[hs]at e;cases e
inductive LtV:Value→Value→Bool→Prop
 |int {a b:Int} {t u:Tok}:LtV (.int a t) (.int b u) (decide (a<b))
 |str {a b:Cs} {t u:Tok}:LtV (.str (sv a) t) (.str (sv b) u) (ltCs a b)
theorem ltV{x y:PV}{v u:Value}{z:Bool}(hx:Rv W P x v)(hy:Rv W P y u)(e:ltP x y=some z):LtV v u z:=by
 induction x using PV.casesOn<;>first|exact nfo e|skip
 ·obtain⟨t,rfl⟩:=hx.inv
  exact rInt hy e fun b t' e=>Option.some.inj e▸.int
 ·obtain⟨t,rfl⟩:=hx.inv
  exact rStr hy e fun b t' e=>Option.some.inj e▸.str
theorem Rz{x:PV}(e:isN x=some true):x=.none:=by
 induction x using PV.casesOn<;>first|rfl|exact nf (Option.some.inj e)|exact nfo e
theorem Vy{x:PV}{v:Value}(hx:Rv W P x v)(e:isN x=some false):v≠.none:=by
 rintro rfl
 induction x using PV.casesOn<;>first|exact nf (Option.some.inj e).symm|exact nfo e|exact nomatch hx.inv|exact hx.inv.elim fun J h=>nomatch h|exact nomatch (show RvRng W _ _ _ _ _ from hx.inv)
theorem A63(H:FzH P s.heap)(hs:P sysModules=none)(hu:A.units+8<cLine){x y:PV}{v u:Value}{z:Bool}{Q:Value→Shared→Prop}(hx:Rv W P x v)(hy:Rv W P y u)(e:inP x y=some z):
 ((∀tk,Q (.bool z) {s with toks:=tk})→wpAny (model W.prog W.w) A (compareOp .In v u) Q E s)∧((∀tk,Q (.bool (!z)) {s with toks:=tk})→wpAny (model W.prog W.w) A (compareOp .NotIn v u) Q E s):=by
 induction y using PV.casesOn<;>first|exact nfo e|skip
 ·have:=A8a (E:=E) (Q:=Q) H hu hx hy e
  exact⟨fun h=>this.1 (h s.toks),fun h=>this.2 (h s.toks)⟩
 ·have:=A8b (E:=E) (Q:=Q) H hu hx hy e
  exact⟨fun h=>this.1 (h s.toks),fun h=>this.2 (h s.toks)⟩
 ·obtain⟨h1,d1,r1⟩:=hy.inv
  refine rStr hx e fun k t e=>?_
  have e:=(V7 r1 k).trans (Option.some.inj e)
  exact⟨fun h=>wpAny_in_of (strKind_is _ _ _ _) (J2 hs h1) (H.dct h1 d1).mapOf (e▸h _),fun h=>wpAny_notIn_of (strKind_is _ _ _ _) (J2 hs h1) (H.dct h1 d1).mapOf (e▸h _)⟩
theorem A1y(H:FzH P s.heap)(hs:P sysModules=none)(hu:A.units+8<cLine){op:Cop}{x y:PV}{v u:Value}{z:Bool}{Q:Value→Shared→Prop}(hx:Rv W P x v)(hy:Rv W P y u)
 (e:cmpP op x y=some z) (h:∀tk,Q (.bool z) {s with toks:=tk}):wpAny (model W.prog W.w) A (compareOp (cop op) v u) Q E s:=by
 have h0:Q (.bool z) s:=h s.toks
 induction op using Cop'.casesOn with
 |eq=>exact Aaj H hu hx hy e h0
 |ne=>exact D7 e fun b e1 q=>Aa1 H hu hx hy e1 (q▸h0)
 |lt=>cases ltV hx hy e with
  |int=>exact lt_int h0
  |str=>exact PySem.P.lt_str h0
 |gt=>cases ltV hy hx e with
  |int=>exact gt_int h0
  |str=>exact PySem.P.gt_str h0
 |le=>exact rInt hx e fun a t e=>rInt hy e fun b t' e=>le_int (Option.some.inj e▸h0)
 |ge=>exact rInt hx e fun a t e=>rInt hy e fun b t' e=>ge_int (Option.some.inj e▸h0)
 |is=>
  refine A5j hy e fun e=>?_
  refine(let GG:=_;(?_:GG))
  induction z using Bool.casesOn with
  |true=>cases Rz e;cases hx.inv;exact wpAny_is_self rfl h0
  |false=>exact is_none_ne (Vy hx e) h0
 |isNot=>
  refine A5j hy e fun e=>D7 e fun b e1 q=>?_
  induction b using Bool.casesOn with
  |true=>cases Rz e1;cases hx.inv;cases q;exact wpAny_isNot_self rfl h0
  |false=>cases q;exact isnot_none_ne (Vy hx e1) h0
 |isIn=>exact(A63 H hs hu hx hy e).1 h
 |notIn=>exact D7 e fun b e q=>(A63 H hs hu hx hy e).2 (q▸h)
end
end Mine.Internal
namespace Mine.Internal
open PySem PySem.W PyProof.Rows PySem.SeqAt
variable {W:Wd} {P P':GM} {fr:List Env} {h h':Heap} {η η':List Addr} {σ σ':Sto}
noncomputable def Hc(q:Nat→Prop)(P P':GM):Prop:=∀a n o,q n→P a=some (.mu n o)→P' a=some (.mu n o)
theorem FldO.mono(l:GLe P P')(p:Pre η η'){od:Obj}{fs:List (Cs×Val)}:FldO (W:=W) P η od fs→FldO (W:=W) P' η' od fs:=by
 rintro⟨es,ep,m,a,b,c,d,e,f⟩
 exact⟨es,ep,m,a,b,c,d,e,fun k x h=>let⟨v,e1,r⟩:=f k x h;⟨v,e1,r.mono l p⟩⟩
theorem RO.mono{n:Nat}{a:Addr}{po:PO}(l:GLe P P')(p:Pre η η')(k:∀a o,P a=some (.mu n o)→P' a=some (.mu n o)):RO (W:=W) P η n a po→RO (W:=W) P' η' n a po:=by
 intro r
 cases r with
 |list h1 r1=>exact .list (k _ _ h1) (r1.mono l)
 |dict h1 d1 r1=>exact .dict (k _ _ h1) d1 (r1.mono l)
 |dictl h1 d1 e1 e2 e3 e4=>exact .dictl (k _ _ h1) d1 e1 e2 e3 fun j b e x y=>let⟨vs,c,u,z⟩:=e4 j b e x y;⟨vs,c,k _ _ u,z.mono l⟩
 |inst h1 i1 n1 h2 f1=>exact .inst (k _ _ h1) i1 n1 (k _ _ h2) (f1.mono l p)
 |froz r1=>exact .froz (r1.mono l)
theorem SR.mono(S:SR W P η σ)(l:GLe P P')(k:Hc (fun J=>True) P P'):SR W P' η σ:=
 ⟨S.len,fun n a po h1 h2=>(S.obj n a po h1 h2).mono l (.refl _) fun a o e=>k a n o trivial e⟩
noncomputable def upd(P:GM)(a:Addr)(g:Gh):GM:=fun b=>if b=a then some g else P b
theorem Ap(P:GM)(a:Addr)(g:Gh):upd P a g a=some g:=by simp[upd]
theorem B6{P:GM}{a b:Addr}{g:Gh}(h:b≠a):upd P a g b=P b:=by simp[upd,h]
theorem Kc{a:Addr}{g:Gh}:∀b,P b≠none→upd P a g b≠none:=fun b h=>by
 by_cases q:b=a
 ·subst q;rw[Ap];simp
 ·rw[B6 q];exact h
theorem Bn{a:Addr}{g:Gh}(h:P a=none∨∃n o,P a=some (.mu n o)):GLe P (upd P a g):=by
 refine⟨fun b o e=>?_,fun b k i x e=>?_⟩
 all_goals
  rw[B6];exact e
  rintro rfl
  rcases h with h|⟨n,o',h⟩<;>rw[h]at e<;>cases e
theorem At{a:Addr}{g:Gh}(h:P a=none):Hc (fun J=>True) P (upd P a g):=fun b n o J e=>by
 rw[B6];exact e
 rintro rfl;rw[h]at e;cases e
theorem E1{a:Addr}{g:Gh}{k:Nat}{o:Obj}(h:P a=some (.mu k o)):Hc (fun n=>n≠k) P (upd P a g):=fun b n o' hn e=>by
 rw[B6];exact e
 rintro rfl;rw[h]at e;cases e;exact hn rfl
noncomputable def By(W:Wd):Prop:=∃o,W.base.get? sysModules=some o
theorem VdH.keeps{d:Addr}{k i a:Value}(x:VdH h d k i a)(e:∀o,h.get? d=some o→h'.get? d=some o):VdH h' d k i a:=
 let⟨m,n,a,b,c,d,f⟩:=x;⟨m,n.at e,a,b,c,d,f⟩
theorem GH.keeps{a:Addr}{g:Gh}(x:GH h a g)(e:∀o,h.get? a=some o→h'.get? a=some o):GH h' a g:=by
 cases g with
 |fz o=>exact e _ x
 |mu n o=>exact e _ x
 |vd k i a'=>exact VdH.keeps x e
theorem Ad(I:Inv W P fr h){a:Addr}(e:h.get? a=none):P a=none:=by
 cases q:P a with
 |none=>rfl
 |some g=>
  have:=I.gh a g q
  cases g with
  |fz o=>rw[show h.get? a=some o from this]at e;cases e
  |mu n o=>rw[show h.get? a=some o from this]at e;cases e
  |vd k i x=>
   obtain⟨m,⟨o,_,_,ho,_⟩,_⟩:=this
   rw[ho]at e;cases e
theorem Ba(k:∀b o,h.get? b=some o→h'.get? b=some o):Stp fr P h P h':=
 ⟨.refl P,fun J a b=>absurd a b,fun J h=>h,fun a o e J=>⟨o.slots,k a o e,fun J=>rfl⟩⟩
theorem Bg(hS:By W)(I:Inv W P fr h)(k:∀b o,h.get? b=some o→h'.get? b=some o):Inv W P fr h':=
 I.step (Ba k) (fun a u e=>(I.gh a u e).keeps (k a)) hS
theorem C7(I:Inv W P fr h)(k:∀b o,h.get? b=some o→h'.get? b=some o){a:Addr}{g:Gh}(e:h.get? a=none):Stp fr P h (upd P a g) h':=
 ⟨Bn (.inl (Ad I e)),fun b hb hb'=>by
  by_cases q:b=a
  ·rw[q];exact e
  ·rw[B6 q]at hb';exact absurd hb hb',Kc,fun a o e J=>⟨o.slots,k a o e,fun J=>rfl⟩⟩
theorem Cr(hS:By W)(I:Inv W P fr h)(k:∀b o,h.get? b=some o→h'.get? b=some o){a:Addr}{g:Gh}(e:h.get? a=none)(hg:GH h' a g):Inv W (upd P a g) fr h':=
 I.step (C7 I k e) (fun b u q=>by
  by_cases x:b=a
  ·subst x;rw[Ap]at q;cases q;exact hg
  ·rw[B6 x]at q;exact(I.gh b u q).keeps (k b)) hS
theorem De{a:Addr}{n:Nat}{o:Obj}{g:Gh}(hp:P a=some (.mu n o))(k:∀b o,b≠a→h.get? b=some o→h'.get? b=some o):Stp fr P h (upd P a g) h':=
 ⟨Bn (.inr ⟨n,o,hp⟩),fun b hb hb'=>by
  by_cases q:b=a
  ·subst q;rw[hp]at hb;cases hb
  ·rw[B6 q]at hb';exact absurd hb hb',Kc,fun b o' e hb=>⟨o'.slots,k b o' (by rintro rfl;rw[hp]at hb;cases hb) e,fun J=>rfl⟩⟩
theorem E2(hS:By W)(I:Inv W P fr h){a:Addr}{n:Nat}{o:Obj}{g:Gh}(hp:P a=some (.mu n o))(k:∀b o,b≠a→h.get? b=some o→h'.get? b=some o)(hg:GH h' a g):Inv W (upd P a g) fr h':=
 I.step (De hp k) (fun b u q=>by
  by_cases x:b=a
  ·subst x;rw[Ap]at q;cases q;exact hg
  ·rw[B6 x]at q;exact(I.gh b u q).keeps fun o e=>k b o x e) hS
theorem Cg{α:Type}{l:List α}{n:Nat}{x:α}(h:l[n]?=some x):n<l.length:=by
 rcases Nat.lt_or_ge n l.length with h'|h'
 ·exact h'
 ·rw[List.getElem?_eq_none h']at h;cases h
theorem SR.set(S:SR W P η σ)(l:GLe P P'){n:Nat}{a:Addr}(ha:η[n]?=some a)(k:Hc (fun m=>m≠n) P P'){po:PO}(r:RO (W:=W) P' η n a po):SR W P' η (σ.set n po):=by
 refine⟨by rw[List.length_set];exact S.len,fun m b po' h1 h2=>?_⟩
 by_cases q:m=n
 ·subst q
  rw[ha]at h1;cases h1
  have hl:m<σ.length:=S.len▸Cg ha
  rw[List.getElem?_set_self hl]at h2;cases h2
  exact r
 ·rw[List.getElem?_set_ne (Ne.symm q)]at h2
  exact(S.obj m b po' h1 h2).mono l (.refl _) fun a o e=>k a m o q e
theorem SR.add(S:SR W P η σ)(l:GLe P P')(k:Hc (fun J=>True) P P'){a:Addr}{po:PO}(r:RO (W:=W) P' (η++[a]) η.length a po):SR W P' (η++[a]) (σ++[po]):=by
 refine⟨by simp[S.len],fun m b po' h1 h2=>?_⟩
 rcases Nat.lt_or_ge m η.length with q|q
 ·rw[List.getElem?_append_left q]at h1
  rw[List.getElem?_append_left (S.len▸q)]at h2
  exact(S.obj m b po' h1 h2).mono l ⟨_,rfl⟩ fun a o e=>k a m o trivial e
 ·have e1:m=η.length:=by
   have:=Cg h1
   simp at this;omega
  subst e1
  rw[List.getElem?_append_right (Nat.le_refl _),Nat.sub_self]at h1
  rw[S.len,List.getElem?_append_right (Nat.le_refl _),Nat.sub_self]at h2
  simp at h1 h2;subst h1 h2
  exact r
inductive After(W:Wd)(fr:List Env)(P:GM)(η:List Addr)(h:Heap)(σ':Sto)(x:Val)(v:Value)(h':Heap):Prop
 |mk (P':GM) (η':List Addr) (st:Stp fr P h P' h') (p:Pre η η') (I:Inv W P' fr h') (S:SR W P' η' σ') (r:RV (W:=W) P' η' x v):After W fr P η h σ' x v h'
inductive Ok(W:Wd)(fr:List Env)(P:GM)(η:List Addr)(s:Shared)(σ':Sto)(x:Val)(v:Value)(s':Shared):Prop
 |mk (h':Heap) (tk:Tok) (e:s'={s with heap:=h',toks:=tk}) (a:After W fr P η s.heap σ' x v h'):Ok W fr P η s σ' x v s'
theorem After.same(I:Inv W P fr h)(S:SR W P η σ){x:Val}{v:Value}(r:RV (W:=W) P η x v):After W fr P η h σ x v h:=⟨P,η,.refl ..,.refl _,I,S,r⟩
theorem Lz(hS:By W)(I:Inv W P fr h)(S:SR W P η σ){xs:List PV}{vs:List Value}(r:Rvs W P xs vs)(m:Bool){a:Addr}{n:Nat}(k:∀b o,h.get? b=some o→h'.get? b=some o)(e:h.get? a=none)(e':h'.get? a=some (lob vs n)):
 After W fr P η h (mk m xs σ).2 (mk m xs σ).1 (.ref a) h':=by
 have hn:=Ad I e
 induction m using Bool.casesOn with
 |true=>
  have l:GLe P (upd P a (.mu η.length (lob vs n))):=Bn (.inl hn)
  refine⟨_,η++[a],C7 (g:=.mu η.length (lob vs n)) I k e,⟨_,rfl⟩,Cr (g:=.mu η.length (lob vs n)) hS I k e e',?_,?_⟩
  ·exact S.add l (At hn) (.list (Ap ..) (r.mono l))
  ·show RV _ _ (.h σ.length) _
   exact .h (by rw[←S.len];simp)
 |false=>
  have l:GLe P (upd P a (.fz (lob vs n))):=Bn (.inl hn)
  exact⟨_,η,C7 (g:=.fz (lob vs n)) I k e,.refl _,Cr (g:=.fz (lob vs n)) hS I k e e',S.mono l (At hn),.v (.lst (Ap ..) (r.mono l))⟩
theorem A7z(hS:By W)(I:Inv W P fr h)(S:SR W P η σ){es:List (Cs×PV)}{kvs:List (Str×Value)}(r:Rvd W P es kvs)(m:Bool){a:Addr}{o:Obj}(d:o.IsDictOf (PySem.strKind W.prog W.w) kvs)(k:∀b o,h.get? b=some o→h'.get? b=some o)(e:h.get? a=none)(e':h'.get? a=some o):
 After W fr P η h (mkD m es σ).2 (mkD m es σ).1 (.ref a) h':=by
 have hn:=Ad I e
 induction m using Bool.casesOn with
 |true=>
  have l:GLe P (upd P a (.mu η.length o)):=Bn (.inl hn)
  refine⟨_,η++[a],C7 (g:=.mu η.length o) I k e,⟨_,rfl⟩,Cr (g:=.mu η.length o) hS I k e e',?_,?_⟩
  ·exact S.add l (At hn) (.dict (Ap ..) d (r.mono l))
  ·show RV _ _ (.h σ.length) _
   exact .h (by rw[←S.len];simp)
 |false=>
  have l:GLe P (upd P a (.fz o)):=Bn (.inl hn)
  exact⟨_,η,C7 (g:=.fz o) I k e,.refl _,Cr (g:=.fz o) hS I k e e',S.mono l (At hn),.v (.dct (Ap ..) d (r.mono l))⟩
theorem Pe(hS:By W)(I:Inv W P fr h)(S:SR W P η σ){xs:List PV}{vs:List Value}(r:Rvs W P xs vs){a:Addr}{o:Obj}(t:TupO o vs)(k:∀b o,h.get? b=some o→h'.get? b=some o)(e:h.get? a=none)(e':h'.get? a=some o):
 After W fr P η h σ (.v (.tup xs)) (.ref a) h':=by
 have hn:=Ad I e
 have l:GLe P (upd P a (.fz o)):=Bn (.inl hn)
 exact⟨_,η,C7 (g:=.fz o) I k e,.refl _,Cr (g:=.fz o) hS I k e e',S.mono l (At hn),.v (.tup (Ap ..) t (r.mono l))⟩
theorem A4f(hS:By W)(I:Inv W P fr h)(S:SR W P η σ){x:Val}{v:Value}(r:RV (W:=W) P η x v)(k:∀b o,h.get? b=some o→h'.get? b=some o):After W fr P η h σ x v h':=
 ⟨P,η,Ba k,.refl _,Bg hS I k,S,r⟩
theorem After.trans{P1:GM}{η1:List Addr}{h1 h2:Heap}{x:Val}{v:Value}{σ2:Sto}(st:Stp fr P h P1 h1)(p:Pre η η1)(a:After W fr P1 η1 h1 σ2 x v h2):After W fr P η h σ2 x v h2:=by
 obtain⟨P2,η2,s2,p2,I,S,r⟩:=a
 exact⟨P2,η2,st.trans s2,p.trans p2,I,S,r⟩
theorem Vu(S:SR W P η σ){x:Val}{v:Value}{y:PV}(r:RV (W:=W) P η x v)(e:pk σ x=some y):Rv W (vis P) y v:=by
 induction x using Val.casesOn with
 |v x=>exact Option.some.inj e▸r.inv.mono (Ef P)
 |h n=>
  obtain⟨ha⟩:=r.inv
  refine B9 e fun po q e=>?_
  cases S.obj n _ po ha q with
  |list h1 r1=>exact Option.some.inj e▸.lst (Ol h1) (r1.mono (Ef P))
  |dict h1 d1 r1=>exact Option.some.inj e▸.dct (Ol h1) d1 (r1.mono (Ef P))
  |froz r1=>exact Option.some.inj e▸r1.mono (Ef P)
  |dictl=>exact nfo e
  |inst=>exact nfo e
set_option tactic.hygienic true in
theorem Pd(S:SR W P η σ){x:Val}{v:Value}(r:RV (W:=W) P η x v):RV (W:=W) P η (norm σ x) v:=by
 cases r with
 |v r=>exact .v r
 |h ha=>
  rename_i n a
  show RV (W:=W) P η (No n (σ[n]?)) _
  cases q:σ[n]? with
  |none=>exact .h ha
  |some po=>
   cases po with
   |froz y=>cases S.obj n a _ ha q with|froz r1=>exact .v r1
   |_=>exact .h ha
theorem Dw(I:Inv W P fr h):FzH (vis P) h:=fun a o e=>by
 cases q:P a with
 |none=>simp[vis,q]at e
 |some g=>
  have hg:=I.gh a g q
  cases g with
  |fz o'=>simp[vis,q]at e;subst e;exact hg
  |mu n o'=>simp[vis,q]at e;subst e;exact hg
  |vd=>simp[vis,q]at e
theorem A89(I:Inv W P fr h):FzH P h:=fun a o e=>I.gh a _ e
theorem V9(I:Inv W P fr h):vis P sysModules=none:=Yl I.sys
end Mine.Internal
namespace Mine.Internal
open PySem PySem.W PyProof.Rows PySem.SeqAt
variable {W:Wd} {P P':GM} {fr:List Env} {h h':Heap} {η η':List Addr} {σ σ':Sto}
noncomputable def frzG(P:GM)(n:Nat):GM:=fun b=>match P b with
 |some (.mu k o)=>if k=n then some (.fz o)else some (.mu k o)
 |g=>g
theorem A4r{n:Nat}{a:Addr}{o:Obj}(e:P a=some (.fz o)):frzG P n a=some (.fz o):=by simp[frzG,e]
theorem W7{n:Nat}{a:Addr}{k i x:Value}(e:P a=some (.vd k i x)):frzG P n a=some (.vd k i x):=by simp[frzG,e]
theorem I8{n:Nat}{a:Addr}{o:Obj}(e:P a=some (.mu n o)):frzG P n a=some (.fz o):=by simp[frzG,e]
theorem W8{n k:Nat}{a:Addr}{o:Obj}(hk:k≠n)(e:P a=some (.mu k o)):frzG P n a=some (.mu k o):=by simp[frzG,e,hk]
theorem Nz{n:Nat}{a:Addr}:frzG P n a=none↔P a=none:=by
 unfold frzG
 cases e:P a with
 |none=>simp
 |some g=>cases g with
  |mu k o=>by_cases q:k=n<;>simp[q]
  |_=>simp
theorem Gb(P:GM)(n:Nat):GLe P (frzG P n):=⟨fun J J e=>A4r e,fun J J J J e=>W7 e⟩
theorem A4q(I:Inv W P fr h)(n:Nat):∀a g,frzG P n a=some g→GH h a g:=by
 intro a g e
 unfold frzG at e
 cases q:P a with
 |none=>rw[q]at e;cases e
 |some u=>
  have hu:=I.gh a u q
  rw[q]at e
  cases u with
  |mu k o=>
   by_cases z:k=n
   ·simp[z]at e;subst e;exact hu
   ·simp[z]at e;subst e;exact hu
  |fz o=>simp at e;subst e;exact hu
  |vd=>simp at e;subst e;exact hu
theorem M6(n:Nat):Stp fr P h (frzG P n) h:=⟨Gb P n,fun a e e'=>absurd (Nz.mpr e) e',fun a e e'=>e (Nz.mp e'),fun a o e J=>⟨o.slots,e,fun J=>rfl⟩⟩
theorem S7(hS:By W)(I:Inv W P fr h)(n:Nat):Inv W (frzG P n) fr h:=I.step (M6 n) (A4q I n) hS
theorem Xq(n:Nat):Hc (fun m=>m≠n) P (frzG P n):=fun J J J hn e=>W8 hn e
theorem Gp{P':GM}:∀{es:List (Cs×List PV)} {as:List Addr},as.length=es.length→
 (∀(j:Nat) (b:Addr) (e:Cs×List PV),as[j]?=some b→es[j]?=some e→∃vs k,P' b=some (.fz (lob vs k))∧Rvs W P' e.2 vs)→
 Rvd W P' (es.map fun e=>(e.1,.lst e.2)) ((es.map fun e=>sv e.1).zip (as.map Value.ref))
 |[],[],_,_=>.nil
 |e::es,a::as,hl,hh=>by
  obtain⟨vs,k,e1,r1⟩:=hh 0 a e rfl rfl
  exact .cons (.lst e1 r1) (Gp (by simpa using hl) fun j b e' x y=>hh (j+1) b e' (by simpa using x) (by simpa using y))
 |[],_::_,hl,_=>by simp at hl
 |_::_,[],hl,_=>by simp at hl
inductive Frz(W:Wd)(fr:List Env)(P:GM)(h:Heap)(η:List Addr)(σ':Sto)(y:PV)(v:Value):Prop
 |mk (P':GM) (st:Stp fr P h P' h) (I:Inv W P' fr h) (S:SR W P' η σ') (r:Rv W P' y v):Frz W fr P h η σ' y v
@[elab_as_elim] theorem Yn{fs:List (Cs×Val)}{f:PV→PV→PV→Option (PV×Sto)}{z:PV×Sto}{R:List (Cs×Val)→Prop}(e:vecF fs f=some z)
 (fin:∀k i a b c,f k i a=some z→R [(cKind,.v k),(cItems,.v i),(cAttrs,.v a),(cShared,.v (.bool b)),(cLoose,.v (.bool c))]):R fs:=by
 refine onLC e fun a r e=>?_
 obtain⟨n1,a⟩:=a
 refine onVV (x:=a) e fun k e=>onLC e fun b r e=>?_
 obtain⟨n2,b⟩:=b
 refine onVV (x:=b) e fun i e=>onLC e fun c r e=>?_
 obtain⟨n3,c⟩:=c
 refine onVV (x:=c) e fun x e=>onLC e fun d r e=>?_
 obtain⟨n4,d⟩:=d
 refine onVV (x:=d) e fun y e=>Ht e fun b1 e=>onLC e fun d r e=>?_
 obtain⟨n5,d⟩:=d
 refine onVV (x:=d) e fun y e=>Ht e fun b2 e=>onL0 e fun e=>onIf e fun hq e=>?_
 refine(let GG:=_;(?_:GG))
 obtain⟨q1,q2,q3,q4,q5⟩:=hq
 have:=fin k i x b1 b2 e
 rwa[←q1,←q2,←q3,←q4,←q5]at this
theorem Wq{m:Str→Option Value}{k i a x y:Val}(hn:∀z,look z [(cKind,k),(cItems,i),(cAttrs,a),(cShared,x),(cLoose,y)]=none→m (sv z)=none)(w:Str)(hw:m w≠none):w∈[sv cKind,sv cItems,sv cAttrs,sv cShared,sv cLoose]:=by
 have ew:w=sv w.cps.toList:=by cases w;simp[sv]
 rw[ew]at hw⊢
 generalize w.cps.toList=z at hw
 by_cases q1:cKind=z
 ·exact q1▸.head _
 by_cases q2:cItems=z
 ·exact q2▸.tail _ (.head _)
 by_cases q3:cAttrs=z
 ·exact q3▸.tail _ (.tail _ (.head _))
 by_cases q4:cShared=z
 ·exact q4▸.tail _ (.tail _ (.tail _ (.head _)))
 by_cases q5:cLoose=z
 ·exact q5▸.tail _ (.tail _ (.tail _ (.tail _ (.head _))))
 exact absurd (hn z (by simp only[Cp,Dz,q1,q2,q3,q4,q5,if_false])) hw
theorem Pk(hS:By W)(I:Inv W P fr h)(S:SR W P η σ){n:Nat}{a:Addr}(ha:η[n]?=some a){z y:PV}{σ':Sto}(rz:Rv W (frzG P n) z (.ref a))(e:some (z,σ.set n (.froz z))=some (y,σ')):Frz W fr P h η σ' y (.ref a):=
 Bb e ⟨_,M6 n,S7 hS I n,S.set (Gb P n) ha (Xq n) (.froz rz),rz⟩
theorem A4p(hS:By W)(I:Inv W P fr h)(S:SR W P η σ){n c:Nat}{a d:Addr}{oo od:Obj}{fs:List (Cs×Val)}{y:PV}{σ':Sto}(ha:η[n]?=some a)(h1:P a=some (.mu n oo))(i1:InsO oo (W.cls c) d)(n1:d≠a)(h2:P d=some (.mu n od))(f1:FldO (W:=W) P η od fs)
 (e:frzO σ n (.inst c fs)=some (y,σ')):Frz W fr P h η σ' y (.ref a):=by
 refine onIf e fun hc e=>?_
 subst hc
 revert f1
 refine Yn e fun k i a0 b4 b5 e f1=>?_
 obtain⟨es,ep,m,hd,hk,hu,hm,hnone,hsome⟩:=f1
 obtain⟨vk,mk',rk⟩:=hsome cKind _ rfl
 obtain⟨vi,mi,ri⟩:=hsome cItems _ rfl
 obtain⟨va,ma,ra⟩:=hsome cAttrs _ rfl
 obtain⟨vs,ms,_⟩:=hsome cShared _ rfl
 have hvd:VdH h d vk vi va:=⟨m,⟨od,es,ep,I.gh d _ h2,hd,hk,hu,hm⟩,mk',mi,ma,by rw[ms];rfl,Wq hnone⟩
 have s1:Stp fr P h (upd P d (.vd vk vi va)) h:=De h2 fun b o J e=>e
 have i1':Inv W (upd P d (.vd vk vi va)) fr h:=E2 hS I h2 (fun b o J e=>e) hvd
 have l:=s1.le.trans (Gb (upd P d (.vd vk vi va)) n)
 have rv:Rv W (frzG (upd P d (.vd vk vi va)) n) (.vec k i a0) (.ref a):=
  .vec (I8 ((B6 (Ne.symm n1)).trans h1)) i1 (W7 (Ap ..)) (rk.inv.mono l) (ri.inv.mono l) (ra.inv.mono l)
 refine Bb e ⟨_,s1.trans (M6 n),S7 hS i1' n,S.set l ha (fun b m' o hm' e=>W8 hm' ?_) (.froz rv),rv⟩
 rw[B6];exact e
 rintro rfl;cases h2.symm.trans e;exact hm' rfl
theorem Dk(hS:By W)(I:Inv W P fr h)(S:SR W P η σ){x:Val}{v:Value}{y:PV}{σ':Sto}(r:RV (W:=W) P η x v)(e:frz σ x=some (y,σ')):Frz W fr P h η σ' y v:=by
 induction x using Val.casesOn with
 |v x=>exact Bb e ⟨P,.refl ..,I,S,r.inv⟩
 |h n=>
  obtain⟨ha⟩:=r.inv
  refine B9 e fun po q e=>?_
  cases S.obj n _ po ha q with
  |list h1 r1=>exact Pk hS I S ha (.lst (I8 h1) (r1.mono (Gb P n))) e
  |dict h1 d1 r1=>exact Pk hS I S ha (.dct (I8 h1) d1 (r1.mono (Gb P n))) e
  |froz r1=>exact Bb e ⟨P,.refl ..,I,S,r1⟩
  |dictl h1 d1 e1 e2 e3 e4=>
   refine Pk hS I S ha (.dct (I8 h1) d1 (e1▸Gp e2 fun j b e x z=>?_)) e
   obtain⟨vs,k,u,w⟩:=e4 j b e x z
   exact⟨vs,k,I8 u,w.mono (Gb P n)⟩
  |inst h1 i1 n1 h2 f1=>exact A4p hS I S ha h1 i1 n1 h2 f1 e
inductive Frzs(W:Wd)(fr:List Env)(P:GM)(h:Heap)(η:List Addr)(σ':Sto)(y:List PV)(v:List Value):Prop
 |mk (P':GM) (st:Stp fr P h P' h) (I:Inv W P' fr h) (S:SR W P' η σ') (r:Rvs W P' y v):Frzs W fr P h η σ' y v
theorem Xp{x:Val}{xs:List Val}{ys:List PV}{σ σ':Sto}(e:frzs σ (x::xs)=some (ys,σ')):∃y ys' σ1,frz σ x=some (y,σ1)∧frzs σ1 xs=some (ys',σ')∧ys=y::ys':=
 B9 e fun p q e=>D7 e fun p2 q2 e=>Bb (congrArg some e) ⟨_,_,_,q,q2,rfl⟩
theorem Ga(hS:By W){xs:List Val}{vs:List Value}{P:GM}{σ:Sto}{ys:List PV}{σ':Sto}(I:Inv W P fr h)(S:SR W P η σ)(r:RVs (W:=W) P η xs vs)(e:frzs σ xs=some (ys,σ')):Frzs W fr P h η σ' ys vs:=by
 induction xs generalizing vs P σ ys with
 |nil=>cases r.inv;exact Bb (R:=fun ys σ'=>Frzs W fr P h η σ' ys []) e ⟨P,.refl ..,I,S,.nil⟩
 |cons x xs ih=>
  obtain⟨p,rs⟩:=r.inv
  obtain⟨y,ys',σ1,q,q2,rfl⟩:=Xp e
  obtain⟨P1,s1,I1,S1,r1⟩:=Dk hS I S p q
  obtain⟨P2,s2,I2,S2,r2⟩:=ih I1 S1 (rs.mono s1.le (.refl _)) q2
  exact⟨P2,s1.trans s2,I2,S2,.cons (r1.mono s2.le) r2⟩
end Mine.Internal
namespace Mine.Internal
open PySem PySem.W PyProof.Rows PySem.SeqAt
variable {W:Wd} {P P':GM} {fr:List Env} {h h':Heap} {η η':List Addr} {σ σ':Sto}
structure AOK(A:Around)(fr:List Env)(n:Nat):Prop where
 handled:A.handled=none
 frames:A.frames=some fr
 depth:A.depth+2*n+8≤900
 units:A.units+20*n+400≤9000
theorem AOK.u8{A:Around}{n:Nat}(a:AOK A fr n):A.units+8<cLine:=Nat.lt_of_le_of_lt (Nat.add_le_add_right (Nat.le_trans (Nat.le_add_right _ (20*n)) (Nat.le_trans (Nat.le_add_right _ 400) a.units)) 8) (show 9000+8<9900 by decide)
theorem AOK.u{A:Around}{n:Nat}(a:AOK A fr n):A.units<cLine:=Nat.lt_of_le_of_lt (Nat.le_add_right _ 8) a.u8
theorem AOK.d{A:Around}{n:Nat}(a:AOK A fr n):A.depth<recursionLimit:=Nat.lt_of_le_of_lt (Nat.le_trans (Nat.le_add_right _ (2*n)) (Nat.le_trans (Nat.le_add_right _ 8) a.depth)) (show 900<1000 by decide)
inductive Rw(P:GM):PV→Value→Prop
 |flat {x:PV} {v:Value}:Rv W P x v→Rw P x v
 |lst {r:Addr} {vs:List Value} {n:Nat} {xs:List PV}:vis P r=some (.fz (lob vs n))→Rvs W P xs vs→Rw P (.lst xs) (.ref r)
 |dct {r:Addr} {o:Obj} {kvs:List (Str×Value)} {es:List (Cs×PV)}:vis P r=some (.fz o)→o.IsDictOf (PySem.strKind W.prog W.w) kvs→Rvd W P es kvs→Rw P (.dct es) (.ref r)
theorem Rw.vis{x:PV}{v:Value}:Rw (W:=W) P x v→Rv W (Mine.Internal.vis P) x v
 |.flat r=>r.mono (Ef P)
 |.lst e r=>.lst e (r.mono (Ef P))
 |.dct e d r=>.dct e d (r.mono (Ef P))
inductive RwLst(P:GM)(xs:List PV)(v:Value):Prop
 |mk (a:Addr) (vs:List Value) (n:Nat) (e:v=.ref a) (h:Mine.Internal.vis P a=some (.fz (lob vs n))) (q:Rvs W P xs vs):RwLst P xs v
inductive RwTup(P:GM)(xs:List PV)(v:Value):Prop
 |mk (a:Addr) (o:Obj) (vs:List Value) (e:v=.ref a) (h:P a=some (.fz o)) (t:TupO o vs) (q:Rvs W P xs vs):RwTup P xs v
inductive RwDct(P:GM)(es:List (Cs×PV))(v:Value):Prop
 |mk (a:Addr) (o:Obj) (kvs:List (Str×Value)) (e:v=.ref a) (h:Mine.Internal.vis P a=some (.fz o)) (d:o.IsDictOf (PySem.strKind W.prog W.w) kvs) (q:Rvd W P es kvs):RwDct P es v
noncomputable def RwI(W:Wd)(P:GM)(x:PV)(v:Value):Prop:=match x with
 |.lst xs=>RwLst (W:=W) P xs v
 |.dct es=>RwDct (W:=W) P es v
 |x=>Rv W P x v
theorem Rw.inv{x:PV}{v:Value}(r:Rw (W:=W) P x v):RwI W P x v:=by
 cases r with
 |flat r=>induction x using PV.casesOn<;>first|exact r|skip
          ·obtain⟨e,q⟩:=r.inv;exact⟨_,_,_,rfl,(Ef P).fz _ _ e,q⟩
          ·obtain⟨e,d,q⟩:=r.inv;exact⟨_,_,_,rfl,(Ef P).fz _ _ e,d,q⟩
 |lst e r=>exact⟨_,_,_,rfl,e,r⟩
 |dct e d r=>exact⟨_,_,_,rfl,e,d,r⟩
theorem Rw.lst_inv{xs:List PV}{v:Value}(r:Rw (W:=W) P (.lst xs) v):RwLst (W:=W) P xs v:=r.inv
theorem Rw.tup_inv{xs:List PV}{v:Value}(r:Rw (W:=W) P (.tup xs) v):RwTup (W:=W) P xs v:=by
 obtain⟨h,t,q⟩:=Rv.inv r.inv;exact⟨_,_,_,rfl,h,t,q⟩
section
variable {α:Type} {y:PV} {u:Value} {z:α} {R:Value→Prop}
@[elab_as_elim] theorem wInt{f:Int→Option α}(hy:Rw (W:=W) P y u)(h:pInt y f=some z)(c:∀i t,f i=some z→R (.int i t)):R u:=by
 revert hy;refine Lr h fun i h hy=>?_;obtain⟨t,rfl⟩:=Rv.inv hy.inv;exact c i t h
@[elab_as_elim] theorem wStr{f:Cs→Option α}(hy:Rw (W:=W) P y u)(h:pStr y f=some z)(c:∀i t,f i=some z→R (.str (sv i) t)):R u:=by
 revert hy;refine Fk h fun i h hy=>?_;obtain⟨t,rfl⟩:=Rv.inv hy.inv;exact c i t h
@[elab_as_elim] theorem wLst{f:List PV→Option α}(hy:Rw (W:=W) P y u)(h:pLst y f=some z)(c:∀xs a vs n,Mine.Internal.vis P a=some (.fz (lob vs n))→Rvs W P xs vs→f xs=some z→R (.ref a)):R u:=by
 revert hy;refine Iy h fun i h hy=>?_;obtain⟨a,vs,n,rfl,e,q⟩:=hy.inv;exact c _ _ _ _ e q h
@[elab_as_elim] theorem wTup{f:List PV→Option α}(hy:Rw (W:=W) P y u)(h:pTup y f=some z)(c:∀xs a o vs,P a=some (.fz o)→TupO o vs→Rvs W P xs vs→f xs=some z→R (.ref a)):R u:=by
 revert hy;refine Zu h fun i h hy=>?_;obtain⟨e,t,q⟩:=Rv.inv hy.inv;exact c _ _ _ _ e t q h
end
theorem Fj(S:SR W P η σ){x:Val}{v:Value}{y:PV}(r:RV (W:=W) P η x v)(e:pk σ x=some y):Rw (W:=W) P y v:=by
 induction x using Val.casesOn with
 |v x=>exact Option.some.inj e▸.flat r.inv
 |h n=>
  obtain⟨ha⟩:=r.inv
  refine B9 e fun po q e=>?_
  cases S.obj n _ po ha q with
  |list h1 r1=>exact Option.some.inj e▸.lst (Ol h1) r1
  |dict h1 d1 r1=>exact Option.some.inj e▸.dct (Ol h1) d1 r1
  |froz r1=>exact Option.some.inj e▸.flat r1
  |dictl=>exact nfo e
  |inst=>exact nfo e
theorem Rvs.append{xs ys:List PV}{vs us:List Value}(a:Rvs W P xs vs)(b:Rvs W P ys us):Rvs W P (xs++ys) (vs++us):=by
 induction xs generalizing vs with
 |nil=>cases a;exact b
 |cons x xs ih=>cases a with|cons p q=>exact .cons p (ih q)
theorem Rvs.replicate{x:PV}{v:Value}(a:Rv W P x v)(n:Nat):Rvs W P (List.replicate n x) (List.replicate n v):=by
 induction n with
 |zero=>exact .nil
 |succ n ih=>exact .cons a ih
theorem Ay{n:Nat}(h:small n=true):n≤4096:=of_decide_eq_true h
theorem Bt{n:Nat}(h:small n=true):n≤sizeLine:=Nat.le_trans (Ay h) (by rw[sizeLine_eq];decide)
section
variable {A:Around} {E:Value→Shared→Prop} {s:Shared} {n:Nat}
theorem Ok.here(I:Inv W P fr s.heap)(S:SR W P η σ){x:Val}{v:Value}(r:RV (W:=W) P η x v)(tk:Nat):Ok W fr P η s σ x v {s with toks:=tk}:=⟨s.heap,tk,rfl,.same I S r⟩
theorem Ok.here0(I:Inv W P fr s.heap)(S:SR W P η σ){x:Val}{v:Value}(r:RV (W:=W) P η x v):Ok W fr P η s σ x v s:=⟨s.heap,s.toks,rfl,.same I S r⟩
theorem Ok.push{o:Obj}{x:Val}{v:Value}{tk:Nat}(a:After W fr P η s.heap σ' x v (s.heap.push o)):Ok W fr P η s σ' x v {s with heap:=s.heap.push o,toks:=tk}:=⟨_,tk,rfl,a⟩
theorem Ah(h:Heap)(o:Obj):∀b o',h.get? b=some o'→(h.push o).get? b=some o':=fun J J e=>Heap.get?_push_of_some _ e
theorem Ak(h:Heap):h.get? h.objs.size=none:=Heap.get?_none_of_le (Nat.le_refl _)
noncomputable def bop:Bop→Operator
 |.add=>.Add|.sub=>.Sub|.mul=>.Mult|.mod=>.Mod|.pow=>.Pow
theorem Gj(v:Value):∀(k:Nat) (acc:Array Value),(List.foldl (fun x1 x2:Array Value=>x1++x2) acc (List.replicate k #[v])).toList=acc.toList++List.replicate k v:=by
 intro k
 induction k with
 |zero=>intro acc;simp
 |succ k ih=>intro acc;simp[List.replicate_succ,ih]
theorem Tu{l:Addr}{v:Value}{k:Nat}{x:Int}{u:Tok}{Q:Value→Shared→Prop}(hl:s.heap.get? l=some (lob [v] k))(hx:x.toNat≤4096)(hhi: -(2^63:Int)≤x)
 (h:Q (.ref s.heap.objs.size) {s with heap:=s.heap.push (lob (List.replicate x.toNat v) 0)}):wpAny (model W.prog W.w) A (binaryOp .Mult (.ref l) (.int x u)) Q E s:=by
 have e:(List.foldl (fun x1 x2:Array Value=>x1++x2) #[] (List.replicate (if([v].toArray).isEmpty=true then 0 else x.toNat) [v].toArray))=(List.replicate x.toNat v).toArray:=by
  have:=Gj v x.toNat #[]
  apply Array.toList_inj.mp
  simpa using this
 have hb:x<2^63:=Int.lt_of_le_of_lt (Int.self_le_toNat x) (Int.lt_of_le_of_lt (Int.ofNat_le.mpr hx) (by decide))
 refine wpAny_binaryOp_repeat_ref (T:="list") (U:="int") (by decide) ⟨_,hl,rfl⟩ (fun s'=>typeIs_int s' x u) noFill_list_mul F.fills_int_mul F.slot_int_rmul repeat_list F.slot_int_index.lookup
  (call_meets F.slot_int_rmul (typeIs_int s x u) F.entry_int_rmul (F.args_int_rmul_2 _ _) (int___rmul___int_list x u l [v].toArray k)
   ⟨hl,rfl,⟨_,hl,rfl⟩,call_meets F.slot_list_mul ⟨_,hl,rfl⟩ F.entry_list_mul (F.args_list_mul_2 _ _)
    (AutoListH.list___mul___list_int_3 l [v].toArray k x u (by simp[Builtin.List.listFitsIndex];exact⟨hhi,hb⟩) (by simp;exact Int.le_trans (Int.self_le_toNat x) (Int.le_trans (Int.ofNat_le.mpr hx) (by decide))) (by simp[Builtin.List.listTooLong,sizeLine];exact Int.le_trans (Int.self_le_toNat x) (Int.le_trans (Int.ofNat_le.mpr hx) (by decide))))
    ⟨hl,?_⟩⟩)
 rw[e];exact h
theorem A70(a b:Cs):sv a++sv b=sv (a++b):=by show Str.mk (a.toArray++b.toArray)=Str.mk (a++b).toArray;simp
theorem Wl(a b:List Value):a.toArray++b.toArray=(a++b).toArray:=by simp
theorem A99(hS:By W){m:Bool}{x y:PV}{v u:Value}{z:Val}(I:Inv W P fr s.heap)(S:SR W P η σ)(hx:Rw (W:=W) P x v)(hy:Rw (W:=W) P y u)(e:addP m x y σ=some (z,σ')):
 wpAny (model W.prog W.w) A (binaryOp .Add v u) (Ok W fr P η s σ' z) E s:=by
 have H:=Dw I
 induction x using PV.casesOn<;>first|exact nfo e|skip
 ·obtain⟨t,rfl⟩:=Rv.inv hx.inv
  exact wInt hy e fun b t' e=>Bb e (add_int (Ok.here I S (.v (.int _ _)) _))
 ·obtain⟨t,rfl⟩:=Rv.inv hx.inv
  refine wStr hy e fun b t' e=>onIf e fun hs e=>Bb e (add_str (fun t' tk=>?_) (by show(List.toArray _).size+(List.toArray _).size≤_;simp only[List.size_toArray];exact Bt hs))
  rw[A70]
  exact Ok.here I S (.v (.str _ _)) _
 ·obtain⟨ea,ta,wa⟩:=Rv.inv hx.inv
  refine wTup hy e fun b rb ob vb eb tb wb e=>?_
  revert wa wb
  refine onLC e fun a as e=>onLC e fun b bs e wa wb=>onIf e fun hs e=>Bb e ?_
  refine(let GG:=_;(?_:GG))
  obtain⟨na,rfl⟩:=ta
  obtain⟨nb,rfl⟩:=tb
  have la:=wa.length
  have lb:=wb.length
  refine PySem.P.add_tuple (I.gh _ _ ea) (I.gh _ _ eb) ?_ ?_ ?_ (by simp only[List.size_toArray,←la,←lb];exact Bt hs)
  ·rw[List.isEmpty_toArray];cases wa.inv;exact Bool.false_ne_true
  ·rw[List.isEmpty_toArray];cases wb.inv;exact Bool.false_ne_true
  ·rw[Wl]
   exact Ok.push (tk:=s.toks) (Pe hS I S (wa.append wb) ⟨0,rfl⟩ (Ah _ _) (Ak _) (Heap.get?_push_size _ rfl))
 ·obtain⟨ra,va,na,rfl,ea,wa⟩:=hx.inv
  refine wLst hy e fun b rb vb nb eb wb e=>onIf e fun hs e=>Bb e ?_
  refine PySem.P.add_list (H _ _ ea) (H _ _ eb) ?_ (by simp only[List.size_toArray,←wa.length,←wb.length];exact Bt hs)
  rw[Wl]
  exact Ok.push (tk:=s.toks) (Lz (n:=0) hS I S (wa.append wb) m (Ah _ _) (Ak _) (Heap.get?_push_size _ rfl))
theorem A95(hS:By W){op:Bop}{m:Bool}{x y:PV}{v u:Value}{z:Val}(I:Inv W P fr s.heap)(S:SR W P η σ)(hx:Rw (W:=W) P x v)(hy:Rw (W:=W) P y u)(e:binP op m x y σ=some (z,σ')):
 wpAny (model W.prog W.w) A (binaryOp (bop op) v u) (Ok W fr P η s σ' z) E s:=by
 cases op with
 |add=>exact A99 hS I S hx hy e
 |sub=>exact wInt hx e fun a t e=>wInt hy e fun b t' e=>Bb e (sub_int (Ok.here I S (.v (.int _ _)) _))
 |mul=>
  refine wLst hx e fun a ra va na ea wa e=>?_
  revert wa
  refine onL1 e fun a e wa=>wInt hy e fun k t e=>onIf e fun hs e=>Bb e ?_
  refine(let GG:=_;(?_:GG))
  obtain⟨p,q⟩:=wa.inv
  cases q.inv
  exact Tu (Dw I _ _ ea) (Ay hs.2) (by have:=hs.1;omega) (Ok.push (tk:=s.toks) (Lz (n:=0) hS I S (Rvs.replicate p _) m (Ah _ _) (Ak _) (Heap.get?_push_size _ rfl)))
 |mod=>
  refine wInt hx e fun a t e=>wInt hy e fun b t' e=>onIf e fun hb e=>Bb e ?_
  rw[Bool.and_eq_true]at hb
  have h1:=of_decide_eq_true hb.1
  refine mod_int (by omega) ?_
  rw[Int.fmod_eq_emod_of_nonneg _ (by omega)]
  exact Ok.here I S (.v (.int _ _)) _
 |pow=>
  refine wInt hx e fun a t e=>wInt hy e fun b t' e=>onIf e fun hb e=>Bb e ?_
  rw[Bool.and_eq_true]at hb
  cases of_decide_eq_true hb.1
  cases of_decide_eq_true hb.2
  exact pow_int_small (by decide) (by decide) (by decide) (Ok.here I S (.v (.int _ _)) _)
end
end Mine.Internal
namespace Mine.Internal
open PySem PySem.W PyProof.Rows PySem.SeqAt
variable {W:Wd} {P P':GM} {fr:List Env} {h h':Heap} {η η':List Addr} {σ σ':Sto}
section
variable {A:Around} {E:Value→Shared→Prop} {s:Shared} {n:Nat}
theorem J3{n:Nat}{k:Int}{j:Nat}(e:Ew n k=some j):seqIndex? k n=some j∧j<n∧n≤4096∧ -4096≤k∧k<4096:=by
 unfold Ew at e
 split at e
 ·rename_i hs
  have hn:=Ay hs
  unfold seqIndex?
  split at e
  ·rename_i h0
   split at e
   ·rename_i h1
    cases e
    have:¬k<0:=Int.not_lt.mpr h0
    simp only[this,if_false]
    refine⟨?_,h1,hn,Int.le_trans (by decide) h0,Int.lt_of_lt_of_le ((Int.toNat_lt h0).mp h1) (Int.ofNat_le.mpr hn)⟩
    have:(decide (0≤k)&&decide (k<(n:Int)))=true:=by rw[decide_eq_true h0,decide_eq_true ((Int.toNat_lt h0).mp h1)];rfl
    rw[if_pos this]
   ·cases e
  ·rename_i h0
   split at e
   ·rename_i h1
    cases e
    have:k<0:=Int.not_le.mp h0
    have h2:k+(n:Int)<n:=by have:=Int.add_lt_add_right this n;rw[Int.zero_add]at this;exact this
    simp only[this,if_true]
    refine⟨?_,(Int.toNat_lt h1).mpr h2,hn,Int.le_of_add_le_add_right (Int.le_trans (show(-4096:Int)+4096≤k+n from h1) (Int.add_le_add_left (Int.ofNat_le.mpr hn) k)),Int.lt_trans this (by decide)⟩
    have:(decide (0≤k+(n:Int))&&decide (k+(n:Int)<(n:Int)))=true:=by rw[decide_eq_true h1,decide_eq_true h2];rfl
    rw[if_pos this]
   ·cases e
 ·cases e
theorem X2{n:Nat}{k:Int}{j:Nat}(e:seqIndex? k n=some j):(0≤k→j=k.toNat)∧(k<0→j=(k+n).toNat∧ -(n:Int)≤k):=by
 unfold seqIndex? at e
 split at e
 ·rename_i h
  dsimp only at e
  split at e
  ·rename_i h2
   cases e
   simp at h2
   exact⟨fun q=>absurd h (Int.not_lt.mpr q),fun J=>⟨rfl,by omega⟩⟩
  ·cases e
 ·rename_i h
  dsimp only at e
  split at e
  ·cases e;exact⟨fun J=>rfl,fun q=>absurd q h⟩
  ·cases e
theorem Ry{a:Addr}{o:Obj}{vs:List Value}(H:h.get? a=some o)(t:TupO o vs):IsTup h a vs.toArray:=by
 obtain⟨n,rfl⟩:=t;exact⟨_,H,rfl,n,rfl⟩
theorem A71{value slice:Expr}{x i z:PV}{v u:Value}(I:Inv W P fr s.heap)(S:SR W P η σ)(hx:Rw (W:=W) P x v)(hi:Rw (W:=W) P i u)(e:subP x i=some z)
 (hs:∀o i,subscripted slice false o i=operate [o,i] (getItem o i)):
 wpAny (model W.prog W.w) A (subscriptTail value slice v u) (Ok W fr P η s σ (.v z)) E s:=by
 have H:=Dw I
 induction x using PV.casesOn<;>first|exact nfo e|skip
 ·obtain⟨t,rfl⟩:=Rv.inv hx.inv
  refine wInt hi e fun k t' e=>B9 e fun j ej e=>D7 e fun c ez e=>?_
  cases e
  refine(let GG:=_;(?_:GG))
  obtain⟨q1,q2,q3,q4,q5⟩:=J3 ej
  refine tail_any (typeIs_str _ _ _) slot_str_getitem.lookup ?_ (hs _ _)
  refine PyProof.Rows.getItem_str (c:=c) (by simp;exact⟨Int.le_trans (by decide) q4,Int.lt_trans q5 (by decide)⟩) ?_ (Ok.here I S (.v (.str [c] _)) _)
  show(seqIndex? k (sv _).cps.size).bind _=_
  simp only[sv,List.size_toArray,q1,Option.bind_some]
  simpa using ez
 ·obtain⟨ea,t,wa⟩:=Rv.inv hx.inv
  refine wInt hi e fun k t' e=>B9 e fun j ej ez=>?_
  refine(let GG:=_;(?_:GG))
  obtain⟨q1,q2,q3,q4,q5⟩:=J3 ej
  obtain⟨v',g1,g2⟩:=wa.get ez
  have ht:=Ry (I.gh _ _ ea) t
  exact tail_any (let⟨o,h1,h2,_⟩:=ht;⟨o,h1,h2⟩) slot_tuple_getitem.lookup (getItem_tuple ht (Int.le_trans (by decide) q4) (Int.lt_trans q5 (by decide)) (j:=j) (by simpa only[List.size_toArray,←wa.length]using q1) (x:=v') (List.getElem?_toArray.trans g1) (Ok.here0 I S (.v g2))) (hs _ _)
 ·obtain⟨a,vs,m,rfl,ea,wa⟩:=hx.inv
  refine wInt hi e fun k t' e=>B9 e fun j ej ez=>?_
  refine(let GG:=_;(?_:GG))
  obtain⟨q1,q2,q3,q4,q5⟩:=J3 ej
  obtain⟨v',g1,g2⟩:=wa.get ez
  have hl:s.heap.IsList a vs.toArray:=⟨_,H _ _ ea,rfl,m,rfl⟩
  refine tail_any hl.typeIs slot_list_getitem.lookup ?_ (hs _ _)
  refine(let GG:=_;(?_:GG))
  obtain⟨p1,p2⟩:=X2 q1
  by_cases h0:0≤k
  ·exact wpAny_getItem_list hl h0 (Int.lt_trans q5 (by decide)) (x:=v') (p1 h0▸List.getElem?_toArray.trans g1) (Ok.here0 I S (.v g2))
  ·have h0:=Int.not_le.mp h0
   obtain⟨p3,p4⟩:=p2 h0
   have l:=wa.length
   refine wpAny_getItem_list_neg hl h0 (by simp only[List.size_toArray,←l];exact p4) (Int.le_trans (by decide) q4) (x:=v') ?_ (Ok.here0 I S (.v g2))
   have:(k+(vs.toArray.size:Nat)).toNat=j:=by simp only[List.size_toArray,←l];exact p3.symm
   rw[this];exact List.getElem?_toArray.trans g1
 ·obtain⟨a,o,kvs,rfl,ea,d,wa⟩:=hx.inv
  refine wStr hi e fun k t' e=>?_
  obtain⟨v',g1,g2⟩:=Mp wa e
  have hd:s.heap.DictOf (PySem.strKind W.prog W.w) a kvs:=Heap.dictOf_iff.mpr ⟨o,H _ _ ea,d⟩
  exact tail_any hd.mapOf.typeIs slot_dict_getitem.lookup (wpAny_getItem_of (strKind_is _ _ _ _) hd.mapOf g1 (Ok.here I S (.v g2) _)) (hs _ _)
theorem Yg(b n:Nat)(hb:b≤n):Builtin.Slice.sliceAdjust none (some (b:Int)) 1 (n:Int)=(0,(b:Int)):=by
 unfold Builtin.Slice.sliceAdjust
 have h1:¬((1:Int)<0):=by decide
 have h2:¬((b:Int)<0):=Int.not_lt.mpr (Int.natCast_nonneg b)
 simp only[h1,h2,if_false]
 congr 1
 omega
theorem Xh(b:Nat):Builtin.Slice.slicePlaces 0 (b:Int) 1=b:=by
 unfold Builtin.Slice.slicePlaces
 have h1:(1:Int)>0:=by decide
 simp only[h1,if_true,Int.ediv_one]
 split
 ·exact(congrArg Int.toNat (by rw[Int.sub_zero,Int.sub_add_cancel])).trans (Int.toNat_natCast b)
 ·rename_i h;exact(Nat.eq_zero_of_not_pos fun q=>h (Int.natCast_pos.mpr q)).symm
theorem V3{sl:Addr}{b n:Nat}{u:Tok}{Q:Int×Int×Nat→Shared→Prop}(hs:s.heap.IsSliceOf sl .none (.int b u) .none)(hb:b≤n)(h:Q (0,1,b) s):
 wpAny (model W.prog W.w) A (Builtin.Slice.sliceApplied (.ref sl) (pure (n:Int))) Q E s:=by
 obtain⟨os,hos,hcs,hds⟩:=id hs
 unfold Builtin.Slice.sliceApplied Builtin.Slice.sliceFields
 refine wpAny_bind (wpAny_bind (wpAny_field hos hds (x:=.none) rfl (wpAny_bind (wpAny_field hos hds (x:=.int b u) rfl (wpAny_bind (wpAny_field hos hds (x:=.none) rfl (wpAny_pure ?_)))))))
 refine wpAny_bind (slicePart_none ?_)
 show wpAny _ _ (if((1:Int)==0)=true then _ else _) _ _ s
 rw[if_neg (by decide)]
 refine wpAny_bind (slicePart_none (wpAny_bind (slicePart_int (wpAny_bind (wpAny_pure ?_)))))
 show wpAny _ _ (match Builtin.Slice.sliceAdjust none (some (b:Int)) 1 (n:Int)with|(lo,hi)=>pure (lo,(1:Int),Builtin.Slice.slicePlaces lo hi 1)) _ _ s
 rw[Yg b n hb]
 show wpAny _ _ (pure ((0:Int),(1:Int),Builtin.Slice.slicePlaces 0 (b:Int) 1)) _ _ s
 rw[Xh b]
 exact wpAny_pure h
theorem A3o(xs:Array Value)(b:Nat):((List.range b).filterMap fun(k:Nat)=>xs[((0:Int)+(k:Int)*1).toNat]?).toArray=(xs.toList.take b).toArray:=by
 have e:(fun(k:Nat)=>xs[((0:Int)+(k:Int)*1).toNat]?)=fun k=>xs[0+k]?:=by
  funext k
  have:((0:Int)+(k:Int)*1).toNat=0+k:=by rw[Int.zero_add,Int.mul_one,Nat.zero_add];rfl
  rw[this]
 rw[e]
 have:=pick_run xs 0 b
 rw[List.filterMap_map]at this
 have e2:((fun x=>xs[x]?)∘fun x=>0+x)=fun k=>xs[0+k]?:=rfl
 rw[e2]at this
 rw[this,List.drop_zero]
theorem T6{t sl:Addr}{items:Array Value}{b:Nat}{u:Tok}{Q:Value→Shared→Prop}(ht:IsTup s.heap t items)(hs:s.heap.IsSliceOf sl .none (.int b u) .none)(hb:b<items.size)
 (h:Q (.ref s.heap.objs.size) {s with heap:=s.heap.push {cls:=.type "tuple",data:=.seq (items.toList.take b).toArray}}) (hsz:items.size≤sizeLine):wpAny (model W.prog W.w) A (getItem (.ref t) (.ref sl)) Q E s:=by
 have hfit:sizeOk (.seq (items.toList.take b).toArray):=by
  show(items.toList.take b).toArray.size≤sizeLine
  rw[List.size_toArray,List.length_take,Array.length_toList]
  exact Nat.le_trans (Nat.min_le_right _ _) hsz
 obtain⟨os,hos,hcs,hds⟩:=id hs
 have hTs:s.TypeIs (.ref sl) "slice":=⟨os,hos,hcs⟩
 unfold getItem
 try with_reducible refine wpAny_holding ?_
 first|refine wpAny_bind (wpAny_pure ?_)|skip
 refine wpAny_bind (wpAny_sequenceKey ht.typeIs (by decide) ?_)
 refine wpAny_bind (wpAny_callSpecial?_slot (name:=Str.ofString "__getitem__") ht.typeIs slot_tuple_getitem
  (wpAny_call_entry slot_tuple_getitem ht.typeIs entry_tuple_getitem ?_ (args_tuple_getitem _ _)))
 show wpAny _ _ (Builtin.Tuple.tupleItemsOf (.ref t)>>=_) _ _ s
 refine wpAny_bind (tupleItemsOf_ ht ?_)
 refine wpAny_bind (wpAny_typeOf hTs ?_)
 rw[if_pos (by decide)]
 refine wpAny_bind (V3 hs (Nat.le_of_lt hb) ?_)
 have hno:¬(((0:Int)==0&&(1:Int)==1&&b==items.size)=true):=by
  have:(b==items.size)=false:=by rw[beq_eq_false_iff_ne];exact Nat.ne_of_lt hb
  rw[this];simp
 show wpAny _ _ (if((0:Int)==0&&(1:Int)==1&&b==items.size)=true then _ else _) _ _ s
 rw[if_neg hno,A3o items b]
 first
  |exact wpAny_bind (m:=Builtin.Tuple.tupleExact _) (wpAny_newObj_type (wpAny_pure ⟨_,rfl,wpAny_pure h⟩) hfit)
  |exact wpAny_bind (m:=Builtin.Tuple.tupleExact _) (wpAny_newObj_type (wpAny_bind (wpAny_pure (wpAny_pure ⟨_,rfl,wpAny_pure h⟩))) hfit)
  |exact wpAny_bind (wpAny_bind (m:=Builtin.Tuple.tupleExact _) (wpAny_newObj_type (wpAny_pure (wpAny_pure ⟨_,rfl,wpAny_pure h⟩)) hfit))
  |exact wpAny_bind (wpAny_bind (m:=Builtin.Tuple.tupleExact _) (wpAny_newObj_type (wpAny_pure ⟨_,rfl,wpAny_pure h⟩) hfit))
end
end Mine.Internal
namespace Mine.Internal
open PySem PySem.W PyProof.Rows PySem.SeqAt
variable {W:Wd} {P P':GM} {fr:List Env} {h h':Heap} {η η':List Addr} {σ σ':Sto}
structure WOK(W:Wd):Prop where
 sys:By W
 nolimit:W.base.NoLimit
 X:W.K.In W.base
 clsV:W.cls 0=cVec
 isV:isIn W.K (.ref (W.cls 0)) (W.cls 0)=true
section
variable {A:Around} {E:Value→Shared→Prop} {s:Shared} {n:Nat}
theorem Inv.K(hW:WOK W)(I:Inv W P fr h):W.K.In h:=fun a o e=>(I.base a o (hW.X a o e)).1
theorem Inv.nolimit(hW:WOK W)(I:Inv W P fr h):h.NoLimit:=hW.nolimit.keeps fun a o e=>(I.base a o e).1
theorem mkE{m:Bool}{xs:List PV}{z:Val}(e:mk m xs σ=(z,σ')):z=(mk m xs σ).1∧σ'=(mk m xs σ).2:=by rw[e];exact⟨rfl,rfl⟩
theorem Eu{a:Int}(h:bnd a=true): -4096≤a∧a≤4096:=by simpa[bnd]using h
theorem Qj{a:Int}(h: -4096≤a∧a≤4096): -(2^63:Int)≤a∧a<2^63:=⟨Int.le_trans (by decide) h.1,Int.lt_of_le_of_lt h.2 (by decide)⟩
theorem Kh{a b c:Int}(hc:0<c):Builtin.Range.rangeSize a b c=(rngN a b c:Nat):=by
 unfold Builtin.Range.rangeSize rngN
 rw[if_pos hc]
 split
 ·rename_i h
  have:0≤(b-a-1)/c:=Int.ediv_nonneg (Int.sub_nonneg_of_le (Int.le_sub_left_of_add_le h)) (Int.le_of_lt hc)
  exact(Int.toNat_of_nonneg (Int.add_nonneg this (by decide))).symm
 ·rfl
theorem Vm{a b c:Int}(hc:0<c)(ha: -4096≤a)(hb:b≤4096):rngN a b c≤8192:=by
 unfold rngN
 split
 ·rename_i h
  have h1:(b-a-1)/c≤b-a-1:=Int.ediv_le_self _ (Int.sub_nonneg_of_le (Int.le_sub_left_of_add_le h))
  exact Int.toNat_le.mpr (Int.le_trans (Int.add_le_add_right h1 1) (by rw[Int.sub_add_cancel];exact Int.le_trans (Int.sub_le_sub hb ha) (by decide)))
 ·exact Nat.zero_le _
theorem Kp(i:Int):Str.ofString (toString i)=sv (B3 i):=by rw[Str.ofString_eq_toList];rfl
theorem A2r{a c:Int}:∀(n:Nat) (vs:List Value),vs.length=n→(∀(j:Nat) (v:Value),vs[j]?=some v→∃t,v=Value.int (a+(j:Int)*c) t)→
 Rvs W P ((List.range n).map fun(i:Nat)=>PV.int (a+(i:Int)*c)) vs:=by
 intro n
 induction n with
 |zero=>intro vs hl _;rw[List.eq_nil_of_length_eq_zero hl];exact .nil
 |succ n ih=>
  intro vs hl hv
  rw[List.range_succ,List.map_append]
  have hlt:n<vs.length:=by rw[hl];exact Nat.lt_succ_self n
  have e:vs=vs.take n++[vs[n]]:=by
   have:vs.drop n=[vs[n]]:=by
    rw[List.drop_eq_getElem_cons hlt,List.drop_eq_nil_of_le (Nat.le_of_eq hl)]
   rw[←this,List.take_append_drop]
  obtain⟨t,ht⟩:=hv n _ (List.getElem?_eq_getElem hlt)
  rw[ht]at e
  rw[e]
  refine(ih _ (by rw[List.length_take,hl];exact Nat.min_eq_left (Nat.le_succ n)) fun j v hj=>hv j v ?_).append (.cons (.int _ _) .nil)
  rw[List.getElem?_take]at hj
  split at hj
  ·exact hj
  ·cases hj
theorem A4c{v:Value}{xs:List PV}{m:Nat}(I:Inv W P fr s.heap)(S:SR W P η σ)(hm:m=xs.length)(hx:Rw (W:=W) P (.lst xs) v)(hb:xs.length<2^62):
 wpAny (model W.prog W.w) A (call (.builtin "len") [v]) (Ok W fr P η s σ (.v (.int m))) E s:=by
 obtain⟨a,vs,k,rfl,ea,wa⟩:=hx.lst_inv
 have hl:s.heap.IsList a vs.toArray:=⟨_,Dw I _ _ ea,rfl,k,rfl⟩
 refine Calls.call_len_list hl (by simp only[List.size_toArray,←wa.length];omega) ?_
 have e:vs.toArray.size=m:=by simp only[List.size_toArray,←wa.length,hm]
 rw[e]
 exact Ok.here I S (.v (.int _ _)) _
noncomputable def bidV:Bid→Value
 |.len=>.builtin "len"|.range=>.type "range"|.abs=>.builtin "abs"|.list=>.type "list"|.tuple=>.type "tuple"|.str=>.type "str"|.isinst=>.builtin "isinstance"|.max=>.builtin "max"|.sorted=>.builtin "sorted"
@[elab_as_elim] theorem vint{α:Type}{x:Val}{v:Value}{f:Int→Option α}{z:α}{R:Value→Prop}(r:RV (W:=W) P η x v)(e:vInt x f=some z)(c:∀i t,f i=some z→R (.int i t)):R v:=by
 revert r;exact onVV e fun y e r=>rInt r.inv e c
@[elab_as_elim] theorem bl1{α:Type}{xs:List Val}{vs:List Value}{f:Val→Option α}{z:α}{R:List Value→Prop}(hx:RVs (W:=W) P η xs vs)(e:l1 xs f=some z)(c:∀x v,RV (W:=W) P η x v→f x=some z→R [v]):R vs:=by
 revert hx;refine onL1 e fun x e hx=>?_;obtain⟨p,q⟩:=hx.inv;cases q.inv;exact c _ _ p e
@[elab_as_elim] theorem bl2{α:Type}{xs:List Val}{vs:List Value}{f:Val→Val→Option α}{z:α}{R:List Value→Prop}(hx:RVs (W:=W) P η xs vs)(e:l2 xs f=some z)(c:∀x v y u,RV (W:=W) P η x v→RV (W:=W) P η y u→f x y=some z→R [v,u]):R vs:=by
 revert hx;refine onLC e fun x r e hx=>?_;obtain⟨p,q⟩:=hx.inv;exact bl1 (R:=fun us=>R (_::us)) q e fun y u q e=>c _ _ _ _ p q e
theorem A82{v:Value}{x:PV}{z:Val}(I:Inv W P fr s.heap)(S:SR W P η σ)(hx:Rw (W:=W) P x v)(e:lenP σ x=some (z,σ')):wpAny (model W.prog W.w) A (call (.builtin "len") [v]) (Ok W fr P η s σ' z) E s:=by
 induction x using PV.casesOn<;>first|exact nfo e|skip
 ·obtain⟨u,rfl⟩:=Rv.inv hx.inv
  refine onIf e fun hs e=>Bb e ?_
  have:=Ay hs
  refine PySem.P.len_str (by show¬((List.toArray _).size:Int)≥_;simp only[List.size_toArray];omega) ?_
  exact Ok.here I S (.v (.int _ _)) _
 ·refine onIf e fun hs e=>Bb e (A4c I S rfl hx (by have:=Ay hs;omega))
theorem Zi(hW:WOK W){vs:List Val}{us:List Value}{x:PV}(I:Inv W P fr s.heap)(S:SR W P η σ)(hx:RVs (W:=W) P η vs us)(e:rngP vs=some x):wpAny (model W.prog W.w) A (call (.type "range") us) (Ok W fr P η s σ (.v x)) E s:=by
 have fin:∀{a b c:Int} {t u v:Tok} {tk:Nat},Ok W fr P η s σ (.v (.rng a b c)) (.ref s.heap.objs.size) {s with heap:=s.heap.push (rob a b c t u v),toks:=tk}:=by
  intro a b c t u v tk
  have hn:=Ad I (Ak s.heap)
  have l:GLe P (upd P s.heap.objs.size (.fz (rob a b c t u v))):=Bn (.inl hn)
  exact Ok.push ⟨_,η,C7 (g:=.fz (rob a b c t u v)) I (Ah _ _) (Ak _),.refl _,Cr (g:=.fz (rob a b c t u v)) hW.sys I (Ah _ _) (Ak _) (Heap.get?_push_size _ rfl),S.mono l (At hn),.v (.rng (Ap ..))⟩
 revert hx
 refine onLC e fun a r e hx=>?_
 obtain⟨p,q⟩:=hx.inv
 refine vint p e fun a ta e=>?_
 induction r using List.casesOn with
 |nil=>cases q.inv;cases e;exact call_range_1 fin
 |cons b r=>
  obtain⟨p2,q2⟩:=q.inv
  refine vint p2 e fun b tb e=>?_
  induction r using List.casesOn with
  |nil=>cases q2.inv;cases e;exact call_range_2 fin
  |cons c r=>
   obtain⟨p3,q3⟩:=q2.inv
   refine vint p3 e fun c tc e=>?_
   revert q3
   refine onL0 e fun e q3=>onIf e fun hc e=>?_
   cases q3.inv
   cases e
   simp only[Bool.and_eq_true,decide_eq_true_eq]at hc
   have hb:=Eu hc.2
   exact call_range_3 (by omega) fin (Or.inl (PyProof.noPylong_small (by omega)))
set_option tactic.hygienic true in
theorem A49(hW:WOK W)(hA:AOK A fr n){v:Value}{x:PV}{m:Bool}{z:Val}(I:Inv W P fr s.heap)(S:SR W P η σ)(hx:Rw (W:=W) P x v)(e:A0h m σ x=some (z,σ')):wpAny (model W.prog W.w) A (call (.type "list") [v]) (Ok W fr P η s σ' z) E s:=by
 cases x<;>first|exact nfo e|skip
 ·obtain⟨hr⟩:=Rv.inv hx.inv
  rename_i a b c _ _ _ _
  refine onIf e fun hq e=>Bb e ?_
  simp only[Bool.and_eq_true,decide_eq_true_eq]at hq
  obtain⟨⟨⟨hc,ha⟩,hb⟩,hcb⟩:=hq
  have ha:=Eu ha
  have hb:=Eu hb
  have hcb:=Eu hcb
  have hlen:=Vm hc ha.1 hb.2
  have hsm:Builtin.Range.small a b c=true:=by
   have hsz:=Kh (a:=a) (b:=b) hc
   unfold Builtin.Range.small
   rw[hsz]
   have h0:c>0:=hc
   simp only[h0,if_true,Builtin.Range.rangeFitsLong,Bool.and_eq_true,Bool.or_eq_true,decide_eq_true_eq]
   exact⟨⟨⟨⟨Qj ha,Qj hb⟩,Qj hcb⟩,Int.le_trans (by decide) (Int.natCast_nonneg _),Int.lt_of_le_of_lt (Int.ofNat_le.mpr hlen) (by decide)⟩,.inr ⟨Int.le_trans (by decide: -(2^63:Int)≤ -4096+0) (Int.add_le_add hb.1 (Int.sub_nonneg_of_le hc)),Int.lt_of_le_of_lt (Int.add_le_add hb.2 (Int.le_trans (Int.sub_le_self c (by decide)) hcb.2)) (by decide)⟩⟩
  refine call_list_range hA.handled (I.gh _ _ hr) hsm (Kh hc) (Nat.le_trans hlen (by decide)) fun h' tk acc' c' k e' hi=>?_
  refine⟨h',tk,rfl,Lz (n:=c') hW.sys I S (vs:=acc'.toList) (A2r _ _ (by rw[Array.length_toList];exact hi.1) fun j v hj=>?_) m k (Ak _) (by simpa[lob]using e')⟩
  exact hi.2 j v (by simpa using hj)
 ·obtain⟨a,vs,k,rfl,ea,wa⟩:=hx.inv
  refine onIf e fun hs e=>Bb e (call_list_seq a (.inl rfl) (Dw I _ _ ea) rfl rfl (fun h' c' k' e'=>?_) (by simp only[List.size_toArray,←wa.length];exact Bt hs))
  exact⟨h',s.toks,rfl,Lz (n:=c') hW.sys I S wa m k' (Ak _) e'⟩
theorem Yq(hW:WOK W){v:Value}{x:PV}{z:Val}(I:Inv W P fr s.heap)(S:SR W P η σ)(hx:Rw (W:=W) P x v)(e:tupP σ x=some (z,σ')):wpAny (model W.prog W.w) A (call (.type "tuple") [v]) (Ok W fr P η s σ' z) E s:=by
 refine wLst hx e fun xs a vs k ea wa e=>onIf e fun hs e=>Bb e ?_
 refine call_tuple_list ⟨_,Dw I _ _ ea,rfl,k,rfl⟩ (fun h' k'=>?_) (by simp only[List.size_toArray,←wa.length];exact Bt hs)
 have I':=Bg hW.sys I k'
 obtain⟨P2,η2,s2,p2,I2,S2,r⟩:=Pe (o:={cls:=.type "tuple",dict:=none,data:=.seq vs.toArray 0,slots:= #[]}) hW.sys I' S wa ⟨0,rfl⟩ (Ah _ _) (Ak _) (Heap.get?_push_size _ rfl)
 exact⟨_,s.toks,rfl,P2,η2,(Ba k').trans s2,p2,I2,S2,r⟩
theorem A87(hW:WOK W){v u:Value}{x:PV}{z:Bool}(I:Inv W P fr s.heap)(S:SR W P η σ)(hx:Rv W P x v)(e:isiP x u=some z):wpAny (model W.prog W.w) A (call (.builtin "isinstance") [v,u]) (Ok W fr P η s σ (.v (.bool z))) E s:=by
 induction x using PV.casesOn<;>first|exact nfo e|skip
 ·cases hx.inv
  refine A7r e fun t e=>onIf e fun q e=>?_
  cases e;cases q
  exact PySem.IsiPair.bool_list (Ok.here I S (.v (.bool _)) _)
 ·obtain⟨h1,o1,d1,a1,b1,c1⟩:=hx.inv
  refine A7s e fun c e=>onIf e fun q e=>?_
  cases e
  rw[q,←hW.clsV]
  refine isi_call (I.K hW) (t:=.ref (W.cls 0)) (fun M=>?_) hW.isV (by intro q;cases q) (Ok.here0 I S (.v (.bool _)))
  have:=(Looks.ld (M:=M) (part:=some headPart) (I.gh _ _ h1)).andThen (f:=fun o=>pure o.cls) .now
  rw[o1.1]at this
  exact this
theorem pkB{α:Type}(S:SR W P η σ){x:Val}{v:Value}{f:PV→Option α}{z:α}{R:Prop}(r:RV (W:=W) P η x v)(e:(pk σ x).bind f=some z)(c:∀y,Rw (W:=W) P y v→f y=some z→R):R:=
 B9 e fun y ey e=>c y (Fj S r ey) e
theorem A24(hW:WOK W)(hA:AOK A fr n){b:Bid}{m:Bool}{xs:List Val}{vs:List Value}{z:Val}(hb:b≠.sorted)(I:Inv W P fr s.heap)(S:SR W P η σ)(hx:RVs (W:=W) P η xs vs)(e:callB b m xs σ=some (z,σ')):
 wpAny (model W.prog W.w) A (call (bidV b) vs) (Ok W fr P η s σ' z) E s:=by
 induction b using Bid'.casesOn with
 |len=>exact bl1 hx e fun x v r e=>pkB S r e fun y rw' e=>A82 I S rw' e
 |range=>exact D7 e fun y ey e=>Bb (congrArg some e) (Zi hW I S hx ey)
 |abs=>
  refine bl1 hx e fun x v r e=>vint r e fun i t e=>Bb e ?_
  refine call_abs_int fun u tk=>?_
  have:(if i<0 then -i else i)=(i.natAbs:Int):=by
   by_cases h:i<0
   ·rw[if_pos h];exact(Int.ofNat_natAbs_of_nonpos (Int.le_of_lt h)).symm
   ·rw[if_neg h];exact(Int.natAbs_of_nonneg (Int.not_lt.mp h)).symm
  rw[this]
  exact Ok.here I S (.v (.int _ _)) _
 |list=>exact bl1 hx e fun x v r e=>pkB S r e fun y rw' e=>A49 hW hA I S rw' e
 |tuple=>exact bl1 hx e fun x v r e=>pkB S r e fun y rw' e=>Yq hW I S rw' e
 |str=>
  refine bl1 hx e fun x v r e=>vint r e fun i t e=>onIf e fun hb e=>Bb e ?_
  rw[Bool.and_eq_true,decide_eq_true_eq,decide_eq_true_eq]at hb
  refine PySem.P.str_of_int ?_ ?_
  ·by_cases h0:i.natAbs=0
   ·rw[h0];decide
   ·exact(Nat.log2_lt h0).mpr (Nat.lt_of_lt_of_le (show i.natAbs<2^20 by omega) (Nat.pow_le_pow_right (by decide) (by decide)))
  ·rw[Kp]
   exact Ok.here I S (.v (.str _ _)) _
 |isinst=>
  refine bl2 hx e fun x v y u r q e=>?_
  revert r
  refine onVV e fun x e r=>?_
  revert q
  refine onVV e fun y e q=>?_
  have q:=q.inv
  revert q
  refine A7v e fun w e q=>D7 e fun b e1 e=>Bb (congrArg some e) ?_
  cases q.inv
  exact A87 hW I S r.inv e1
 |max=>
  refine bl2 hx e fun x v y u r q e=>vint r e fun a ta e=>vint q e fun b tb e=>Bb e ?_
  refine max_two_ints hA.handled fun h' tk k=>⟨h',tk,rfl,A4f hW.sys I S ?_ k⟩
  by_cases hab:a<b
  ·have:b>a:=hab
   rw[if_pos this,if_pos hab];exact .v (.int _ _)
  ·have:¬b>a:=hab
   rw[if_neg this,if_neg hab];exact .v (.int _ _)
 |sorted=>exact absurd rfl hb
end
end Mine.Internal
namespace Mine.Internal
open PySem PySem.W PyProof.Rows PySem.SeqAt PySem.MeetsSeq
variable {W:Wd} {P P':GM} {fr:List Env} {h h':Heap} {η η':List Addr} {σ σ':Sto}
theorem Mr(l:Addr)(items:Array Value)(n:Nat)(x:Value)(e:Value→Bool)(j:Nat)(hj:j<items.size)
 (hit:e items[j]=true) (hno:∀m (hm:m<items.size),m<j→e items[m]=false):
 Meets (Builtin.«tuple.index» ⟨[.ref l,x],[]⟩)
  (fun A R s=>s.heap.get? l=some {cls:=.type "tuple",dict:=none,data:=.seq items n,slots:= #[]}∧(∀y,y∈items→EqAt A.in1 s y x (e y))∧R (.ok (.ret (.int j s.toks))) {s with toks:=s.toks+1}):=
 .of_wp fun prog w A R s h=>by
  obtain⟨hp,g,d,tk,os⟩:=s;obtain⟨hl,he,h⟩:=h
  unfold Builtin.«tuple.index»
  wp_walk using wpAny_loadPart' hl
  rw[Nat.min_self]
  show wpAny (model prog w) A.in1 (forIn (m:=Sem) ([0:items.size]:Std.Legacy.Range) ((none:Option PySem.Fin),()) _) _ _ _
  rw[Std.Legacy.Range.forIn_eq_forIn_range']
  have es:(([0:items.size]:Std.Legacy.Range)).size=items.size:=by simp[Std.Legacy.Range.size]
  rw[es]
  change wpAny (model prog w) A.in1 (forIn (m:=Sem) (List.range' 0 items.size 1) ((none:Option PySem.Fin),()) _) _ _ _
  refine wpAny_forIn_list _ (fun rest (b:Option PySem.Fin×Unit) s'=>b.1=none∧s'=⟨hp,g,d,tk,os⟩∧∃i,rest=List.range' i (items.size-i)∧i≤j) _ ?_ ?_ _ _ ?_
  focus
   rintro y rest b s' ⟨hb,rfl,i,hr,hi⟩
   have hlt:i<items.size:=Nat.lt_of_le_of_lt hi hj
   have e2:items.size-i=(items.size-(i+1))+1:=by rw[Nat.sub_add_eq,Nat.sub_add_cancel (Nat.sub_pos_of_lt hlt)]
   rw[e2,List.range'_succ]at hr
   obtain⟨rfl,rfl⟩:=List.cons.inj hr
   have e3:items[y]?=some items[y]:=Array.getElem?_eq_getElem hlt
   rw[e3]
   dsimp only
   refine wpAny_bind (he _ (Array.getElem_mem hlt) prog w _ _ ?_)
   by_cases hyj:y=j
   ·subst hyj
    rw[hit]
    wp_walk
    exact⟨_,rfl,h⟩
   ·rw[hno y hlt (Nat.lt_of_le_of_ne hi hyj)]
    wp_walk
    exact⟨rfl,rfl,y+1,rfl,Nat.lt_of_le_of_ne hi hyj⟩
  focus
   rintro⟨b1,b2⟩ s' ⟨hb,rfl,i,hr,hi⟩
   exfalso
   have:=congrArg List.length hr
   rw[List.length_nil,List.length_range']at this
   exact Nat.lt_irrefl _ (this▸Nat.sub_pos_of_lt (Nat.lt_of_le_of_lt hi hj))
  focus
   exact⟨rfl,rfl,0,by simp[Std.Legacy.Range.size],Nat.zero_le _⟩
section
variable {A:Around} {E:Value→Shared→Prop} {s:Shared} {n:Nat}
noncomputable def midS:Ty→Mid→String
 |.list,.append=>"list.append"
 |.list,.extend=>"list.extend"
 |.list,.pop=>"list.pop"
 |.list,.reverse=>"list.reverse"
 |.list,.count=>"list.count"
 |.list,.index=>"list.index"
 |.tuple,.index=>"tuple.index"
 |.dict,.get=>"dict.get"
 |.str,.join=>"str.join"
 |_,_=>""
noncomputable def midN:Mid→Str
 |.append=>Str.ofString "append"|.extend=>Str.ofString "extend"|.pop=>Str.ofString "pop"|.reverse=>Str.ofString "reverse"|.count=>Str.ofString "count"|.index=>Str.ofString "index"|.get=>Str.ofString "get"|.join=>Str.ofString "join"
noncomputable def tyS:Ty→String
 |.list=>"list"|.tuple=>"tuple"|.dict=>"dict"|.str=>"str"
theorem Ea{o:Obj}{kvs:List (Str×Value)}(d:o.IsDictOf (PySem.strKind W.prog W.w) kvs):o.cls=.type "dict"∧o.dict=none:=by
 obtain⟨es,ep,hs,_⟩:=d;exact⟨hs.1,hs.2.1⟩
inductive TyO(hs:Shared)(v:Value)(t:Ty):Prop
 |mk (a:hs.TypeIs v (tyS t)) (b:∀a,v=.ref a→∃o,hs.heap.get? a=some o∧o.dict=none):TyO hs v t
theorem TyO.obj{hs:Shared}{r:Addr}{o:Obj}{t:Ty}(h:hs.heap.get? r=some o)(c:o.cls=.type (tyS t))(d:o.dict=none):TyO hs (.ref r) t:=⟨⟨o,h,c⟩,fun a q=>by cases q;exact⟨o,h,d⟩⟩
theorem Vb{hs:Shared}(I:Inv W P fr hs.heap){x:PV}{v:Value}{t:Ty}(r:Rv W P x v)(e:tyP x=some t):TyO hs v t:=by
 induction x using PV.casesOn<;>first|exact nfo e|skip
 ·obtain⟨u,rfl⟩:=r.inv;cases e;exact⟨typeIs_str _ _ _,fun a q=>nomatch q⟩
 ·obtain⟨hp,⟨k,rfl⟩,_⟩:=r.inv;cases e;exact .obj (I.gh _ _ hp) rfl rfl
 ·obtain⟨hp,_⟩:=r.inv;cases e;exact .obj (I.gh _ _ hp) rfl rfl
 ·obtain⟨hp,hd,_⟩:=r.inv;cases e;exact .obj (I.gh _ _ hp) (Ea hd).1 (Ea hd).2
theorem A5b{hs:Shared}(I:Inv W P fr hs.heap)(S:SR W P η σ){o:Val}{v:Value}{t:Ty}(r:RV (W:=W) P η o v)(e:tyOf σ o=some t):TyO hs v t:=by
 induction o using Val.casesOn with
 |v x=>exact Vb I r.inv e
 |h n=>
  obtain⟨ha⟩:=r.inv
  refine B9 e fun po q e=>?_
  cases S.obj n _ po ha q with
  |list hp _=>cases e;exact .obj (I.gh _ _ hp) rfl rfl
  |dict hp hd _=>cases e;exact .obj (I.gh _ _ hp) (Ea hd).1 (Ea hd).2
  |dictl hp hd _ _ _ _=>cases e;exact .obj (I.gh _ _ hp) (Ea hd).1 (Ea hd).2
  |froz r=>exact Vb I r e
  |inst=>exact nfo e
theorem U6(I:Inv W P fr s.heap)(S:SR W P η σ){o:Val}{v:Value}{t:Ty}{k:Mid}{pl:Sem Bool}{Q:Value×List Value→Shared→Prop}(r:RV (W:=W) P η o v)(e:tyOf σ o=some t)(hk:okM k t=true)
 (h:Q (.builtin (midS t k),[v]) s):wpAny (model W.prog W.w) A (getMethod v (midN k) pl) Q E s:=by
 refine(let GG:=_;(?_:GG))
 obtain⟨hT,hd⟩:=A5b I S r e
 induction k using Mid'.casesOn<;>cases t<;>first|exact nf hk|skip
 ·exact getMethod_builtin hT F.plainAttrs_list F.slot_list_append F.type_list_append hd h
 ·exact getMethod_builtin hT F.plainAttrs_list F.slot_list_extend F.type_list_extend hd h
 ·exact getMethod_builtin hT F.plainAttrs_list F.slot_list_pop F.type_list_pop hd h
 ·exact getMethod_builtin hT F.plainAttrs_list F.slot_list_reverse F.type_list_reverse hd h
 ·exact getMethod_builtin hT F.plainAttrs_list F.slot_list_count F.type_list_count hd h
 ·exact getMethod_builtin hT F.plainAttrs_list F.slot_list_index F.type_list_index hd h
 ·exact getMethod_builtin hT F.plainAttrs_tuple F.slot_tuple_index F.type_tuple_index hd h
 ·exact getMethod_builtin hT F.plainAttrs_dict F.slot_dict_get F.type_dict_get hd h
 ·exact getMethod_builtin hT F.plainAttrs_str F.slot_str_join F.type_str_join hd h
end
end Mine.Internal
namespace Mine.Internal
open PySem PySem.W PyProof.Rows PySem.SeqAt PySem.MeetsSeq
variable {W:Wd} {P P':GM} {fr:List Env} {h h':Heap} {η η':List Addr} {σ σ':Sto}
section
variable {A:Around} {E:Value→Shared→Prop} {s:Shared} {n:Nat}
theorem Dd{h:Heap}{a:Addr}{f:Obj→Obj}:∀b o,b≠a→h.get? b=some o→(h.update a f).get? b=some o:=fun b o hb e=>(Heap.get?_update_ne _ _ _ _ hb).trans e
theorem E8(hS:By W)(I:Inv W P fr s.heap)(S:SR W P η σ){k:Nat}{a:Addr}{xs':List PV}{vs vs':List Value}{e:Nat}{f:Array Value→Array Value}{z:PV}{v:Value}
 (ha:η[k]?=some a) (hp:P a=some (.mu k (lob vs e))) (hf:f vs.toArray=vs'.toArray) (r:Rvs W P xs' vs') (hz:Rv W P z v):
 Ok W fr P η s (σ.set k (.list xs')) (.v z) v {s with heap:=s.heap.update a (Obj.mapSeq f)}:=by
 have hg:=I.gh _ _ hp
 have e1:(lob vs e).mapSeq f=lob vs' (if vs'.length=vs.length then e else e+1):=by
  show Obj.mk _ _ (.seq (f vs.toArray) (if(f vs.toArray).size==vs.toArray.size then e else e+1)) _=_
  rw[hf];simp[lob]
 have hq:(s.heap.update a (Obj.mapSeq f)).get? a=some (lob vs' (if vs'.length=vs.length then e else e+1)):=by
  rw[←e1];exact Heap.get?_update_self _ hg (by rw[e1];rfl)
 have l:=Bn (P:=P) (a:=a) (g:=.mu k (lob vs' (if vs'.length=vs.length then e else e+1))) (.inr ⟨k,_,hp⟩)
 refine⟨_,s.toks,rfl,_,η,De (g:=.mu k (lob vs' (if vs'.length=vs.length then e else e+1))) hp Dd,.refl _,E2 hS I hp Dd hq,?_,.v (hz.mono l)⟩
 exact S.set l ha (E1 hp) (.list (Ap ..) (r.mono l))
theorem Jj(S:SR W P η σ){k:Nat}{a:Addr}{xs:List PV}(ha:η[k]?=some a)(e:σ[k]?=some (.list xs)):∃vs m,P a=some (.mu k (lob vs m))∧Rvs W P xs vs:=by
 refine(let GG:=_;(?_:GG))
 cases S.obj k a _ ha e with
 |list h1 r1=>exact⟨_,_,h1,r1⟩
theorem Rvs.reverse{xs:List PV}{vs:List Value}(r:Rvs W P xs vs):Rvs W P xs.reverse vs.reverse:=by
 induction xs generalizing vs with
 |nil=>cases r;exact .nil
 |cons x xs ih=>cases r with|cons p q=>simpa using(ih q).append (.cons p .nil)
theorem Rvs.size{xs:List PV}{vs:List Value}(r:Rvs W P xs vs)(h:small xs.length=true):vs.toArray.size≤sizeLine:=by rw[List.size_toArray,←r.length];exact Bt h
theorem Rvs.dropLast{xs:List PV}{vs:List Value}(r:Rvs W P xs vs):Rvs W P xs.dropLast vs.dropLast:=by
 induction xs generalizing vs with
 |nil=>cases r;exact .nil
 |cons x xs ih=>cases r with
  |cons p q=>cases q with
   |nil=>exact .nil
   |cons p' q'=>exact .cons p (ih (.cons p' q'))
theorem Rvs.last{xs:List PV}{vs:List Value}(r:Rvs W P xs vs){x:PV}(e:xs.getLast?=some x):∃v,vs.toArray[vs.toArray.size-1]?=some v∧Rv W P x v:=by
 rw[List.getLast?_eq_getElem?]at e
 obtain⟨v,hv,hr⟩:=r.get e
 refine⟨v,?_,hr⟩
 rw[r.length]at hv
 simpa using hv
theorem Y1(H:FzH P s.heap)(hu:A.units+8<cLine){x:PV}{u:Value}(hx:Rv W P x u):∀{ys:List PV} {vs:List Value} {m:Nat},Rvs W P ys vs→countP x ys=some m→
 ∃e:Value→Bool,vs.countP e=m∧(∀y∈vs.toArray,EqAt A.in1 s y u (e y)):=by
 intro ys vs m r hm
 classical
 have key:∀(ys:List PV) (vs:List Value) (m:Nat),Rvs W P ys vs→countP x ys=some m→
  (∀v∈vs,∃y c,Rv W P y v∧eqP y x=some c)∧vs.countP (fun v=>decide (∃y,Rv W P y v∧eqP y x=some true))=m:=by
  intro ys
  induction ys with
  |nil=>intro vs m r hm;cases r;cases hm;simp
  |cons y ys ih=>
   intro vs m r hm
   refine(let GG:=_;(?_:GG))
   cases r with
   |cons p q=>
    rename_i v vs
    refine B9 hm fun c e1 hm=>D7 hm fun k e2 hm=>?_
    obtain⟨i1,i2⟩:=ih _ _ q e2
    refine⟨fun w hw=>?_,?_⟩
    ·rcases List.mem_cons.mp hw with rfl|hw
     ·exact⟨y,c,p,e1⟩
     ·exact i1 w hw
    ·rw[List.countP_cons,i2,←hm]
     induction c using Bool.casesOn with
     |true=>rw[if_pos (decide_eq_true ⟨y,p,e1⟩)];rfl
     |false=>
      rw[show decide (∃y,Rv W P y v∧eqP y x=some true)=false from decide_eq_false fun⟨z,hz,ez⟩=>nf (Fu 4 y z x p hz e1 ez)];rfl
 obtain⟨k1,k2⟩:=key ys vs m r hm
 refine⟨_,k2,fun v hv=>?_⟩
 refine(let GG:=_;(?_:GG))
 obtain⟨y,c,hy,e⟩:=k1 v (by simpa using hv)
 have:decide (∃y,Rv W P y v∧eqP y x=some true)=c:=by
  induction c using Bool.casesOn with
  |true=>exact decide_eq_true ⟨y,hy,e⟩
  |false=>exact decide_eq_false fun⟨z,hz,ez⟩=>nf (Fu 4 y z x hy hz e ez)
 show EqAt A.in1 s v u (decide (∃y,Rv W P y v∧eqP y x=some true))
 rw[this]
 exact(Ge H 4 (A:=A.in1) (by show A.units+1+4<cLine;omega) hy hx e).1
set_option tactic.hygienic true in
theorem U2{x:PV}{u:Value}(hx:Rv W P x u){ys:List PV}:∀{vs:List Value} {j:Nat},Rvs W P ys vs→U3 x ys=some j→
 j<vs.length∧(∀v,vs[j]?=some v→∃y,Rv W P y v∧eqP y x=some true)∧∀m,m<j→∀v,vs[m]?=some v→∃y,Rv W P y v∧eqP y x=some false:=by
 induction ys with
 |nil=>exact fun J e=>nfo e
 |cons y ys ih=>
  intro vs j r e
  cases r with|cons p q=>
  rename_i w vs
  refine B9 e fun c e1 e=>?_
  ·induction c using Bool.casesOn with
   |true=>
    cases e
    refine⟨by simp,fun v hv=>?_,fun m hm=>absurd hm (Nat.not_lt_zero _)⟩
    simp at hv;subst hv
    exact⟨y,p,e1⟩
   |false=>
    refine D7 e fun k e2 e=>?_
    subst e
    obtain⟨i1,i2,i3⟩:=ih q e2
    refine⟨by simpa using i1,fun v hv=>i2 v (by simpa using hv),fun m hm v hv=>?_⟩
    induction m using Nat.casesOn with
    |zero=>simp at hv;subst hv;exact⟨y,p,e1⟩
    |succ m=>exact i3 m (by omega) v (by simpa using hv)
end
end Mine.Internal
namespace Mine.Internal
open PySem PySem.W PyProof.Rows PySem.SeqAt PySem.MeetsSeq
variable {W:Wd} {P P':GM} {fr:List Env} {h h':Heap} {η η':List Addr} {σ σ':Sto}
section
variable {A:Around} {E:Value→Shared→Prop} {s:Shared} {n:Nat}
theorem Da(s:Cs):(sv s).length=s.length:=by show s.toArray.size=_;simp
theorem Xo(g:Array Nat):∀(l:List Str) (a:Array Nat),(l.foldl (fun acc p=>acc++g++p.cps) a).toList=a.toList++(l.map fun p=>g.toList++p.cps.toList).flatten:=by
 intro l
 induction l with
 |nil=>intro a;simp
 |cons p l ih=>intro a;simp only[List.foldl_cons,ih,Array.toList_append,List.map_cons,List.flatten_cons,List.append_assoc]
theorem Rt{sep:Cs}:∀{xs:List PV} {t:Cs},W1 sep xs=some t→∃l:List Cs,xs=l.map PV.str∧t=(l.headD [])++((l.drop 1).map fun p=>sep++p).flatten
 |[],t,e=>⟨[],rfl,(Option.some.inj e).symm⟩
 |[x],t,e=>Fk e fun a e=>⟨[a],rfl,by rw[←Option.some.inj e];simp⟩
 |x::y::r,t,e=>Fk e fun a e=>D7 e fun u e1 e=>by
  obtain⟨l,e2,rfl⟩:=Rt e1
  cases l with
  |nil=>cases e2
  |cons b l=>exact⟨a::b::l,by rw[e2];rfl,by rw[←e];simp[List.append_assoc]⟩
theorem A0q(sep:Cs):∀(l:List Cs) (k:Nat),((l.map sv).toArray.foldl (fun(n:Nat) (s:Str)=>n+s.length+(sv sep).length) k)=k+(l.map fun p=>p.length+sep.length).sum:=by
 intro l k
 rw[←Array.foldl_toList]
 show List.foldl _ k (l.map sv)=_
 induction l generalizing k with
 |nil=>simp
 |cons p l ih=>
  simp only[List.map_cons,List.foldl_cons,List.sum_cons]
  rw[ih,Da,Da];simp only[Nat.add_assoc]
theorem A14(sep:Cs)(l:List Cs):Builtin.Str.glued (sv sep) (l.map sv)=sv ((l.headD [])++((l.drop 1).map fun p=>sep++p).flatten):=by
 unfold Builtin.Str.glued
 show Str.mk _=Str.mk _
 congr 1
 apply Array.toList_inj.mp
 rw[Xo]
 cases l with
 |nil=>simp[Str.empty]
 |cons a l=>
  simp[sv,List.map_map,Function.comp_def]
theorem A2p{l:List Cs}{vs:List Value}(r:Rvs W P (l.map PV.str) vs):∃ts:List (Str×Tok),vs=strValues ts∧ts.map (·.1)=l.map sv:=by
 induction l generalizing vs with
 |nil=>cases r;exact⟨[],rfl,rfl⟩
 |cons a l ih=>
  refine(let GG:=_;(?_:GG))
  cases r with
  |cons p q=>
   cases p with
   |str _ t=>
    obtain⟨ts,e1,e2⟩:=ih q
    exact⟨(sv a,t)::ts,by rw[e1];rfl,by simp[e2]⟩
set_option tactic.hygienic true in
theorem A4g{sep t:Cs}{xs:List PV}{v:Value}{u:Tok}(I:Inv W P fr s.heap)(S:SR W P η σ)(hx:Rv W P (.lst xs) v)(e:W1 sep xs=some t)(hs:small (t.length+sep.length)=true):
 wpAny (model W.prog W.w) A (call (.builtin "str.join") [.str (sv sep) u,v]) (Ok W fr P η s σ (.v (.str t))) E s:=by
 cases hx with
 |lst hp r=>
  rename_i a vs n
  have hg:=I.gh _ _ hp
  obtain⟨l,rfl,ht⟩:=Rt e
  obtain⟨ts,rfl,e2⟩:=A2p r
  have hs':=Ay hs
  have hlen:(l.map fun p=>p.length+sep.length).sum≤4096:=by
   rw[ht]at hs'
   cases l with
   |nil=>simp
   |cons b l=>
    simp only[List.headD_cons,List.drop_one,List.tail_cons,List.length_append,List.length_flatten,List.map_map]at hs'
    simp only[List.map_cons,List.sum_cons]
    have:(l.map (List.length∘fun p=>sep++p)).sum=(l.map fun p=>p.length+sep.length).sum:=by
     congr 1;apply List.map_congr_left;intro p _;simp;exact Nat.add_comm ..
    rw[this]at hs'
    rw[Nat.add_right_comm];exact hs'
  have hsum:=A0q sep l 0
  rw[Nat.zero_add]at hsum
  refine call_meets F.slot_str_join (typeIs_str _ _ _) F.entry_str_join (F.args_str_join_2 _ _) (meets_str_join_list (sv sep) u a ts ?_) ⟨⟨_,hg,rfl,n,rfl⟩,?_⟩
  ·rw[e2]
   have e3:Array.foldl (fun(x1:Nat) (x2:Str)=>x1+x2.length+(sv sep).length) 0 (List.map sv l).toArray=_:=hsum
   unfold Builtin.Str.tooLong
   refine decide_eq_false ?_
   show¬(Array.foldl (fun(x1:Nat) (x2:Str)=>x1+x2.length+(sv sep).length) 0 (List.map sv l).toArray>sizeLine)
   rw[e3,sizeLine_eq];exact Nat.not_lt.mpr (Nat.le_trans hlen (by decide))
  ·have key:Builtin.Str.glued (sv sep) (ts.map (·.1))=sv t:=by rw[e2,A14,←ht]
   have szt:(sv t).length≤sizeLine:=by rw[Da,sizeLine_eq];exact Nat.le_trans (Nat.le_trans (Nat.le_add_right ..) hs') (by decide)
   match ts,key with
   |[],key=>
    show _∧_
    rw[key]
    exact⟨szt,Ok.here I S (.v (.str _ _)) _⟩
   |[p],key=>
    show Ok W fr P η s σ (.v (.str t)) (.str p.1 p.2) s
    have:p.1=sv t:=by
     rw[←key]
     simp[Builtin.Str.glued]
    rw[this]
    exact Ok.here0 I S (.v (.str _ _))
   |p::q::r,key=>
    show _∧_
    rw[key]
    exact⟨szt,Ok.here I S (.v (.str _ _)) _⟩
theorem A8t(H:FzH P s.heap)(hu:A.units+8<cLine){x:PV}{u:Value}(hx:Rv W P x u){ys:List PV}{vs:List Value}(r:Rvs W P ys vs)(hm:(memP x ys).isSome=true):
 ∃e:Value→Bool,(∀y∈vs.toArray,EqAt A.in1 s y u (e y))∧∀v y c,Rv W P y v→eqP y x=some c→e v=c:=by
 classical
 have key:∀(ys:List PV) (vs:List Value),Rvs W P ys vs→(memP x ys).isSome=true→∀v∈vs,∃y c,Rv W P y v∧eqP y x=some c:=by
  intro ys
  induction ys with
  |nil=>intro vs r _ v hv;cases r;simp at hv
  |cons y ys ih=>
   intro vs r hm v hv
   refine(let GG:=_;(?_:GG))
   cases r with
   |cons p q=>
    obtain⟨b,hb⟩:=Option.isSome_iff_exists.mp hm
    obtain⟨a,c,e1,e2,_⟩:=Nq hb
    rcases List.mem_cons.mp hv with rfl|hv
    ·exact⟨y,a,p,e1⟩
    ·exact ih _ q (by rw[e2];rfl) v hv
 have ex:∀v y c,Rv W P y v→eqP y x=some c→decide (∃y,Rv W P y v∧eqP y x=some true)=c:=by
  intro v y c hy e
  cases c with
  |true=>exact decide_eq_true ⟨y,hy,e⟩
  |false=>exact decide_eq_false fun⟨z,hz,ez⟩=>nf (Fu 4 y z x hy hz e ez)
 refine⟨fun v=>decide (∃y,Rv W P y v∧eqP y x=some true),fun v hv=>?_,ex⟩
 refine(let GG:=_;(?_:GG))
 obtain⟨y,c,hy,e⟩:=key ys vs r hm v (by simpa using hv)
 show EqAt A.in1 s v u (decide (∃y,Rv W P y v∧eqP y x=some true))
 rw[ex v y c hy e]
 exact(Ge H 4 (A:=A.in1) (by show A.units+1+4<cLine;omega) hy hx e).1
theorem V6{xs:List PV}:∀{ys:List Val} {vs:List Value},Rvs W P xs vs→RVs (W:=W) P η (xs.map .v) vs:=by
 induction xs with
 |nil=>intro _ vs r;cases r;exact .nil
 |cons x xs ih=>intro ys vs r;cases r with|cons p q=>exact .cons (.v p) (ih (ys:=ys) q)
@[elab_as_elim] theorem fl1{α:Type}{xs:List PV}{vs:List Value}{f:PV→Option α}{z:α}{R:List Value→Prop}(hx:Rvs W P xs vs)(e:l1 xs f=some z)(c:∀x v,Rv W P x v→f x=some z→R [v]):R vs:=by
 revert hx;refine onL1 e fun x e hx=>?_;obtain⟨p,q⟩:=hx.inv;cases q.inv;exact c _ _ p e
inductive IdxR(A:Around)(s:Shared)(vs:List Value)(u:Value)(z:PV):Prop
 |mk (f:Value→Bool) (j:Nat) (hz:z=.int j) (e1:∀y∈vs.toArray,EqAt A.in1 s y u (f y)) (hj:j<vs.toArray.size) (h64:vs.length≤4096) (hit:f vs.toArray[j]=true) (no:∀m (hm:m<vs.toArray.size),m<j→f vs.toArray[m]=false):IdxR A s vs u z
theorem A11(H:FzH P s.heap)(hu:A.units+8<cLine){x z:PV}{u:Value}{ys:List PV}{vs:List Value}(hx:Rv W P x u)(r:Rvs W P ys vs)(e:idxP x ys=some z):IdxR A s vs u z:=by
 refine onIf e fun hm e=>D7 e fun j ej e=>?_
 obtain⟨hm,hsz⟩:=Bool.and_eq_true_iff.mp hm
 obtain⟨f,e1,e2⟩:=A8t (A:=A) (s:=s) H hu hx r hm
 obtain⟨i1,i2,i3⟩:=U2 hx r ej
 refine⟨f,j,e.symm,e1,i1,r.length▸Ay hsz,?_,fun m hm' hlt=>?_⟩
 ·obtain⟨y,q1,q2⟩:=i2 _ (List.getElem?_eq_getElem i1)
  exact e2 _ y _ q1 q2
 ·obtain⟨y,q1,q2⟩:=i3 m hlt _ (List.getElem?_eq_getElem hm')
  exact e2 _ y _ q1 q2
theorem A8c(hW:WOK W){z:PV}{es:List (Cs×PV)}{xs:List PV}{v:Value}{vs:List Value}(I:Inv W P fr s.heap)(S:SR W P η σ)(ho:Rv W P (.dct es) v)(hx:Rvs W P xs vs)
 (e:(lC xs fun k r=>pStr k fun k=>lE r (some ((look k es).getD .none)) fun d r=>l0 r (some ((look k es).getD d)))=some z):wpAny (model W.prog W.w) A (call (.builtin "dict.get") (v::vs)) (Ok W fr P η s σ (.v z)) E s:=by
 obtain⟨hp,d,r⟩:=ho.inv
 have hd:s.heap.DictOf (PySem.strKind W.prog W.w) _ _:=Heap.dictOf_iff.mpr ⟨_,I.gh _ _ hp,d⟩
 revert hx
 refine onLC e fun k xs e hx=>?_
 obtain⟨rk,rx⟩:=hx.inv
 refine rStr rk e fun key tk e=>?_
 refine(let GG:=_;(?_:GG))
 cases xs with
 |nil=>
  cases rx.inv;cases e
  refine call_meetsIn F.slot_dict_get hd.typeIs F.entry_dict_get (F.args_dict_get_2 _ _) (meets_dict_get (PySem.strKind W.prog W.w) _ (strKind_is _ _ _ _) (J2 I.sys hp)) ⟨_,hd.mapOf,?_⟩
  cases q:look key es with
  |none=>rw[T2 r q];exact Ok.here I S (.v .none) _
  |some z=>obtain⟨u,e1,e2⟩:=Mp r q;rw[e1];exact Ok.here I S (.v e2) _
 |cons y xs=>
  obtain⟨hy,rn⟩:=rx.inv
  revert rn
  refine onL0 e fun e rn=>?_
  cases rn.inv;cases e
  refine call_meetsIn F.slot_dict_get hd.typeIs F.entry_dict_get (F.args_dict_get_3 _ _ _) (meets_dict_get_default (PySem.strKind W.prog W.w) _ (strKind_is _ _ _ _) (J2 I.sys hp) _) ⟨_,hd.mapOf,?_⟩
  cases q:look key es with
  |none=>rw[T2 r q];exact Ok.here I S (.v hy) _
  |some z=>obtain⟨u,e1,e2⟩:=Mp r q;rw[e1];exact Ok.here I S (.v e2) _
theorem A09(hW:WOK W)(hA:AOK A fr n){k:Mid}{t:Ty}{o z:PV}{xs:List PV}{v:Value}{vs:List Value}(I:Inv W P fr s.heap)(S:SR W P η σ)(ho:Rv W P o v)(hx:Rvs W P xs vs)(ht:tyP o=some t)(e:A0a k o xs=some z):
 wpAny (model W.prog W.w) A (call (.builtin (midS t k)) (v::vs)) (Ok W fr P η s σ (.v z)) E s:=by
 have H:=A89 I
 have hu:=hA.u8
 cases k<;>first|exact nfo e|skip
 ·
  revert ho ht
  refine Iy e fun ys e ho ht=>?_
  cases ht
  obtain⟨hp,r⟩:=ho.inv
  refine fl1 hx e fun x u hx e=>D7 e fun m em e=>?_
  cases e
  obtain⟨f,e1,e2⟩:=Y1 H hu hx r em
  refine call_meets F.slot_list_count ⟨_,I.gh _ _ hp,rfl⟩ F.entry_list_count (F.args_list_count_2 _ _) (list_countAt _ _ _ _ _ _ f) ⟨I.gh _ _ hp,e2,?_⟩
  have:List.countP f _=m:=e1
  rw[show(List.toArray _).toList=_ from rfl,this]
  exact Ok.here I S (.v (.int _ _)) _
 ·
  cases o<;>first|exact nfo e|skip
  ·cases ht
   obtain⟨hp,⟨nn,rfl⟩,r⟩:=ho.inv
   refine fl1 hx e fun x u hx e=>?_
   obtain⟨f,j,rfl,e1,hj,_,hit,no⟩:=A11 (A:=A) H hu hx r e
   have hg:=I.gh _ _ hp
   exact call_meets F.slot_tuple_index ⟨_,hg,rfl⟩ F.entry_tuple_index (F.args_tuple_index_2 _ _) (Mr _ _ _ _ f j hj hit no) ⟨hg,e1,Ok.here I S (.v (.int _ _)) _⟩
  ·cases ht
   obtain⟨hp,r⟩:=ho.inv
   refine fl1 hx e fun x u hx e=>?_
   obtain⟨f,j,rfl,e1,hj,h64,hit,no⟩:=A11 (A:=A) H hu hx r e
   exact call_meets F.slot_list_index ⟨_,I.gh _ _ hp,rfl⟩ F.entry_list_index (F.args_list_index_2 _ _) (list_indexAt _ _ _ _ _ _ f j hj (by rw[List.size_toArray]at hj;omega) hit no) ⟨I.gh _ _ hp,e1,Ok.here I S (.v (.int _ _)) _⟩
 ·
  revert ho ht
  refine A7w e fun es e ho ht=>?_
  cases ht
  exact A8c hW I S ho hx e
 ·
  revert ho ht
  refine Fk e fun sep e ho ht=>?_
  cases ht
  obtain⟨tk,rfl⟩:=ho.inv
  refine fl1 hx e fun x u hx e=>?_
  revert hx
  refine Iy e fun xs e hx=>B9 e fun t' et e=>onIf e fun hs e=>?_
  cases e
  exact A4g I S hx et hs
theorem Ok.after{P1:GM}{σ1:Sto}{x:Val}{v:Value}{s':Shared}(st:Stp fr P s.heap P1 s.heap)(o:Ok W fr P1 η s σ1 x v s'):Ok W fr P η s σ1 x v s':=by
 obtain⟨h',tk,rfl,P2,η2,s2,p2,I,S,r⟩:=o
 exact⟨h',tk,rfl,P2,η2,st.trans s2,p2,I,S,r⟩
theorem A8f{o:Val}{x:PV}{σ1:Sto}{t:Ty}(q:frz σ o=some (x,σ1))(ht:tyOf σ o=some t):tyP x=some t:=by
 refine(let GG:=_;(?_:GG))
 cases o with
 |v y=>cases q;exact ht
 |h i=>
  refine B9 q fun po qq q=>?_
  have ht:tyO po=some t:=by
   have:(σ[i]?).bind tyO=some t:=ht
   rw[qq]at this;exact this
  cases po with
  |list=>cases q;exact ht
  |dict=>cases q;exact ht
  |dictl=>cases q;exact ht
  |froz=>cases q;exact ht
  |inst=>exact nfo ht
theorem Yf(hW:WOK W){i:Nat}{xs:List Val}{z:Val}{v:Value}{vs:List Value}(I:Inv W P fr s.heap)(S:SR W P η σ)(ho:RV (W:=W) P η (.h i) v)(hx:RVs (W:=W) P η xs vs)
 (e:(l1 xs fun a=>(frz σ a).bind fun q=>Go q.2 i fun xs=>if small xs.length then some (Val.v .none,q.2.set i (.list (xs++[q.1])))else none)=some (z,σ')):wpAny (model W.prog W.w) A (call (.builtin "list.append") (v::vs)) (Ok W fr P η s σ' z) E s:=by
 obtain⟨hη⟩:=ho.inv
 refine bl1 hx e fun a u ha e=>B9 e fun q hq e=>Hs e fun xs hl e=>onIf e fun hs e=>Bb e ?_
 refine(let GG:=_;(?_:GG))
 obtain⟨P1,s1,I1,S1,r1⟩:=Dk hW.sys I S ha hq
 obtain⟨us,m,hp,r2⟩:=Jj S1 hη hl
 refine call_meets F.slot_list_append ⟨_,I1.gh _ _ hp,rfl⟩ F.entry_list_append (F.args_list_append_2 _ _) (list_append _ us.toArray m _ (r2.size hs)) ⟨I1.gh _ _ hp,?_⟩
 exact Ok.after s1 (E8 hW.sys I1 S1 hη hp (List.push_toArray ..) (r2.append (.cons r1 .nil)) .none)
theorem Xw(hW:WOK W){i:Nat}{xs:List Val}{z:Val}{v:Value}{vs:List Value}(I:Inv W P fr s.heap)(S:SR W P η σ)(ho:RV (W:=W) P η (.h i) v)(hx:RVs (W:=W) P η xs vs)
 (e:(l1 xs fun a=>vV a fun a=>pLst a fun ys=>Go σ i fun xs=>if small (xs.length+ys.length)then some (Val.v .none,σ.set i (.list (xs++ys)))else none)=some (z,σ')):wpAny (model W.prog W.w) A (call (.builtin "list.extend") (v::vs)) (Ok W fr P η s σ' z) E s:=by
 obtain⟨hη⟩:=ho.inv
 refine bl1 hx e fun a u ha e=>?_
 revert ha
 refine onVV e fun a e ha=>rLst ha.inv e fun ys b ws nb hb r3 e=>Hs e fun xs hl e=>onIf e fun hs e=>Bb e ?_
 refine(let GG:=_;(?_:GG))
 obtain⟨us,m,hp,r2⟩:=Jj S hη hl
 have hsz:=Ay hs
 have l2:=r2.length
 have l3:=r3.length
 refine call_meets F.slot_list_extend ⟨_,I.gh _ _ hp,rfl⟩ F.entry_list_extend (F.args_list_extend_2 _ _) (AutoSeq1.list_extend_list_list_0 _ us.toArray m _ _ _ ?_ ?_ ?_) ⟨I.gh _ _ hp,I.gh _ _ hb,?_⟩
 ·simp only[List.size_toArray,←l2,←l3,Builtin.List.listTooLong,Bool.not_eq_true,Bool.and_eq_false_iff]
  right;exact decide_eq_false (by rw[sizeLine_eq];exact Nat.not_lt.mpr (Nat.le_trans hsz (by decide)))
 ·simp only[List.size_toArray,←l2];rw[sizeLine_eq];exact Nat.le_trans (Nat.le_trans (Nat.le_add_right ..) hsz) (by decide)
 ·simp only[List.size_toArray,←l2,←l3];rw[sizeLine_eq];exact Nat.le_trans hsz (by decide)
 ·exact E8 hW.sys I S hη hp (by simp) (r2.append r3) .none
theorem A7p(hW:WOK W){i:Nat}{xs:List Val}{z:Val}{v:Value}{vs:List Value}(I:Inv W P fr s.heap)(S:SR W P η σ)(ho:RV (W:=W) P η (.h i) v)(hx:RVs (W:=W) P η xs vs)
 (e:(l0 xs (Go σ i fun xs=>xs.getLast?.bind fun x=>if small xs.length then some (Val.v x,σ.set i (.list xs.dropLast))else none))=some (z,σ')):wpAny (model W.prog W.w) A (call (.builtin "list.pop") (v::vs)) (Ok W fr P η s σ' z) E s:=by
 obtain⟨hη⟩:=ho.inv
 revert hx
 refine onL0 e fun e hx=>Hs e fun xs hl e=>B9 e fun x hx' e=>onIf e fun hs e=>Bb e ?_
 cases hx.inv
 refine(let GG:=_;(?_:GG))
 obtain⟨us,m,hp,r2⟩:=Jj S hη hl
 obtain⟨u,e1,e2⟩:=r2.last hx'
 refine call_meets F.slot_list_pop ⟨_,I.gh _ _ hp,rfl⟩ F.entry_list_pop (F.args_list_pop_1 _) (list_pop_last _ us.toArray m u e1 (r2.size hs)) ⟨I.gh _ _ hp,?_⟩
 refine E8 hW.sys I S hη hp ?_ r2.dropLast e2
 apply Array.toList_inj.mp
 simp[Array.eraseIdxIfInBounds]
 split
 ·simp[List.eraseIdx_eq_dropLast]
 ·have:us=[]:=by cases us with|nil=>rfl|cons=>simp at*
  subst this;rfl
theorem Tk(hW:WOK W){i:Nat}{xs:List Val}{z:Val}{v:Value}{vs:List Value}(I:Inv W P fr s.heap)(S:SR W P η σ)(ho:RV (W:=W) P η (.h i) v)(hx:RVs (W:=W) P η xs vs)
 (e:(l0 xs (Go σ i fun xs=>if small xs.length then some (Val.v .none,σ.set i (.list xs.reverse))else none))=some (z,σ')):wpAny (model W.prog W.w) A (call (.builtin "list.reverse") (v::vs)) (Ok W fr P η s σ' z) E s:=by
 obtain⟨hη⟩:=ho.inv
 revert hx
 refine onL0 e fun e hx=>Hs e fun xs hl e=>onIf e fun hs e=>Bb e ?_
 cases hx.inv
 refine(let GG:=_;(?_:GG))
 obtain⟨us,m,hp,r2⟩:=Jj S hη hl
 refine call_meets F.slot_list_reverse ⟨_,I.gh _ _ hp,rfl⟩ F.entry_list_reverse (F.args_list_reverse_1 _) (AutoSeq1.list_reverse_list_0 _ us.toArray m (r2.size hs)) ⟨I.gh _ _ hp,?_⟩
 exact E8 hW.sys I S hη hp (List.reverse_toArray ..) r2.reverse .none
theorem A22(hW:WOK W)(hA:AOK A fr n){k:Mid}{t:Ty}{o z:Val}{xs:List Val}{v:Value}{vs:List Value}(I:Inv W P fr s.heap)(S:SR W P η σ)(ho:RV (W:=W) P η o v)(hx:RVs (W:=W) P η xs vs)
 (ht:tyOf σ o=some t) (hk:okM k t=true) (e:Ih k o xs σ=some (z,σ')):wpAny (model W.prog W.w) A (call (.builtin (midS t k)) (v::vs)) (Ok W fr P η s σ' z) E s:=by
 have rest:((frz σ o).bind fun p=>(frzs p.2 xs).bind fun q=>(A0a k p.1 q.1).map fun r=>(Val.v r,q.2))=some (z,σ')→wpAny (model W.prog W.w) A (call (.builtin (midS t k)) (v::vs)) (Ok W fr P η s σ' z) E s:=fun e=>
  B9 e fun p q e=>B9 e fun ps q2 e=>D7 e fun r er e=>Bb (congrArg some e) (by
   obtain⟨P1,s1,I1,S1,r1⟩:=Dk hW.sys I S ho q
   obtain⟨P2,s2,I2,S2,r2⟩:=Ga hW.sys I1 S1 (hx.mono s1.le (.refl _)) q2
   exact wpAny_mono (A09 hW hA I2 S2 (r1.mono s2.le) r2 (A8f q ht) er) (fun J J o=>Ok.after (s1.trans s2) o) fun J J x=>x)
 refine(let GG:=_;(?_:GG))
 cases k with
 |append=>cases t<;>first|exact nf hk|skip
          revert ho;exact onVH e fun i e ho=>Yf hW I S ho hx e
 |extend=>cases t<;>first|exact nf hk|skip
          revert ho;exact onVH e fun i e ho=>Xw hW I S ho hx e
 |pop=>cases t<;>first|exact nf hk|skip
       revert ho;exact onVH e fun i e ho=>A7p hW I S ho hx e
 |reverse=>cases t<;>first|exact nf hk|skip
           revert ho;exact onVH e fun i e ho=>Tk hW I S ho hx e
 |_=>exact rest e
end
end Mine.Internal
namespace Mine.Internal
open PySem PySem.W PyProof.Rows PySem.SeqAt PySem.MeetsSeq
variable {W:Wd} {P P':GM} {fr:List Env} {h h':Heap} {η η':List Addr} {σ σ':Sto}
section
variable {A:Around} {E:Value→Shared→Prop} {s:Shared} {n:Nat}
noncomputable def E0(K:Frag)(C:Addr)(name:Str):Bool:=plainGet K C name&&hasDictIn K C&&findIn K (.ref C) name==some none
noncomputable def F9(K:Frag)(C:Addr)(name:Str):Bool:=findIn K (.ref C) "__setattr__"==some (some (.builtin "object.__setattr__"))&&plainOver K C&&takerIn K C name==some none&&hasDictIn K C
theorem J5{od:Obj}{es:Array DictEntry}{ep:Nat}{m:Str→Option Value}(hd:od.data=.dict es ep)(hk:StrKeys es)(hf:∀name,nsFind es name=m name)(name:Str):lookIn name od=some (m name):=by
 unfold lookIn
 rw[hd]
 dsimp only
 have e:=hf name
 unfold nsFind findBy at e
 rw[←Array.find?_toList]at e
 cases q:es.toList.find? (fun x=>x.key.isStr name)with
 |some en=>rw[q]at e;rw[←e];rfl
 |none=>
  rw[q]at e
  dsimp only
  have hany:es.toList.any (·.refKey)=false:=by
   rw[List.any_eq_false];intro x hx;obtain⟨n,t,h⟩:=hk x (Array.mem_toList_iff.mp hx);simp[DictEntry.refKey,h]
  rw[hany,←e];rfl
theorem J1{o:Obj}(h:∀c,o.data≠.cls c):notCls o=true:=by
 obtain⟨_,_,dt,_⟩:=o
 induction dt using PySem.Data.casesOn<;>first|rfl|exact absurd rfl (h _)
set_option tactic.hygienic true in
theorem M5(hW:WOK W)(I:Inv W P fr s.heap){x C d:Addr}{ox:Obj}{m:Str→Option Value}{name:Str}{v:Value}{expr:Bool}{Q:Value→Shared→Prop}
 (hx:s.heap.get? x=some ox) (ho:InsO ox C d) (hn:s.heap.Ns1 d m) (hok:E0 W.K C name=true) (hm:m name=some v) (hh:handedIn v=true) (h:Q v {s with toks:=s.toks+1}):
 wpAny (model W.prog W.w) A (getAttr (.ref x) name expr) Q E s:=by
 unfold E0 at hok
 simp only[Bool.and_eq_true,beq_iff_eq]at hok
 obtain⟨⟨h1,h2⟩,h3⟩:=hok
 obtain⟨od,es,ep,hg,hd,hk,hu,hf⟩:=hn
 obtain⟨o1,o2,o3⟩:=ho
 have hnc:=J1 o3
 have IA:PySem.W.InstAt s.heap x ox C (some od):=⟨hx,o1,hnc,by rw[o2];exact hg⟩
 exact get_value (Inv.K hW I) IA (plainGet_of h1).1 (findObj_own h2 h3 rfl (by rw[J5 hd hk hf,hm])) hh h
set_option tactic.hygienic true in
theorem Kt(hW:WOK W)(I:Inv W P fr s.heap){x C d:Addr}{ox:Obj}{m:Str→Option Value}{name:Str}{v:Value}{ns:List Str}{Q:Unit→Shared→Prop}
 (hx:s.heap.get? x=some ox) (ho:InsO ox C d) (hn:s.heap.Ns1 d m) (hw:Within m ns) (hsz:ns.length≤5000) (hok:F9 W.K C name=true)
 (h:∀h' tk,h'.Ns1 d (fun y=>if y=name then some v else m y)→Heap.SameBut d s.heap h'→Q () {s with heap:=h',toks:=tk}):
 wpAny (model W.prog W.w) A (setAttr (.ref x) name v) Q E s:=by
 unfold F9 at hok
 simp only[Bool.and_eq_true,beq_iff_eq]at hok
 obtain⟨⟨⟨h1,h2⟩,h3⟩,h4⟩:=hok
 obtain⟨od,es,ep,hg,hd,hk,hu,hf⟩:=id hn
 obtain⟨o1,o2,o3⟩:=ho
 have hnc:=J1 o3
 have IA:PySem.W.InstAt s.heap x ox C (some od):=⟨hx,o1,hnc,by rw[o2];exact hg⟩
 obtain⟨cd,hc,hdd⟩:=any_some h4
 have X:=Inv.K hW I
 refine set_plain X IA h1 (osa_open (s:={s with toks:=s.toks+1}) X IA h2 h3 fun b=>?_)
 obtain⟨oc,odi,oda,osl⟩:=ox
 dsimp only at o1 o2
 subst o1 o2
 refine wpAny_bind (wpAny_pure (wpAny_bind (wpAny_bind (wpAny_loadPart hx (wpAny_bind (looks_clsIn X hc _ _ _ {s with toks:=s.toks+1} (fun J J e=>e) ?_))))))
 rw[hdd]
 refine wpAny_pure (a:=some d) ?_
 refine wpAny_bind (wpAny_pure (wpAny_bind (wpAny_nsSet1 (s:={s with toks:=s.toks+1}) hn fun h' hn' hs=>?_)))
 obtain⟨oD,esD,epD,hoD,hdD,hcD⟩:=hn'.count (Within.cons name v hw)
 refine wpAny_bind (wpAny_lookBehind hoD (by rw[hdD];exact pastItsLine_dict (Nat.le_trans hcD (by rw[List.length_cons,sizeLine_eq];omega))) ?_)
 exact wpAny_pure (h h' _ hn' hs)
end
end Mine.Internal
namespace Mine.Internal
open PySem PySem.W PyProof.Rows PySem.SeqAt PySem.MeetsSeq
variable {W:Wd} {P P':GM} {fr:List Env} {h h':Heap} {η η':List Addr} {σ σ':Sto}
section
variable {A:Around} {E:Value→Shared→Prop} {s:Shared} {n:Nat}
theorem A31(y:Str):sv y.cps.toList=y:=by cases y;simp[sv]
theorem Og{x:PV}{v:Value}(r:Rv W P x v)(hr:∀w,x≠.raw w):handedIn v=true:=by
 cases r<;>first|rfl|exact absurd rfl (hr _)
theorem Oh{x:Val}{v:Value}(r:RV (W:=W) P η x v)(hr:rawV x=false):handedIn v=true:=by
 cases r with
 |v r=>exact Og r (by rintro w rfl;cases hr)
 |h=>rfl
theorem T3{od:Obj}{fs:List (Cs×Val)}{d:Addr}(F:FldO (W:=W) P η od fs)(hg:h.get? d=some od):
 ∃m,h.Ns1 d m∧(∀k,look k fs=none→m (sv k)=none)∧∀k x,look k fs=some x→∃v,m (sv k)=some v∧RV (W:=W) P η x v:=by
 obtain⟨es,ep,m,a,b,c,d',e,f⟩:=F
 exact⟨m,⟨od,es,ep,hg,a,b,c,d'⟩,e,f⟩
theorem Yo{a:Cs}{k i x:PV}{z:Val}{R:Prop}(h:vecA a k i x=some z)(c1:a=cKind→z=.v k→R)(c2:a=cItems→z=.v i→R)(c3:a=cAttrs→z=.v x→R):R:=by
 unfold vecA at h
 by_cases q:a=cKind
 ·rw[if_pos q]at h;exact c1 q (Option.some.inj h).symm
 rw[if_neg q]at h
 by_cases q:a=cItems
 ·rw[if_pos q]at h;exact c2 q (Option.some.inj h).symm
 rw[if_neg q]at h
 exact onIf h fun q h=>c3 q (Option.some.inj h).symm
theorem Ym(hW:WOK W)(I:Inv W P fr s.heap)(S:SR W P η σ){k i a':PV}{v:Value}{a:Cs}{x:Val}{expr:Bool}(r:Rv W P (.vec k i a') v)
 (e:vecA a k i a'=some x) (hr:rawV x=false) (hok:E0 W.K (W.cls 0) (sv a)=true):
 wpAny (model W.prog W.w) A (getAttr v (sv a) expr) (Ok W fr P η s σ (norm σ x)) E s:=by
 obtain@⟨rr,d,oo,k',i',x',h1,o1,d1,rk,ri,ra⟩:=r.inv
 obtain⟨m,hns,mk',mi,ma,_⟩:=I.gh _ _ d1
 have fin:∀{y:PV} {u:Value},m (sv a)=some u→Rv W P y u→x=.v y→wpAny (model W.prog W.w) A (getAttr (.ref rr) (sv a) expr) (Ok W fr P η s σ (norm σ x)) E s:=by
  rintro y u e1 r1 rfl
  exact M5 hW I (I.gh _ _ h1) o1 hns hok e1 (Oh (η:=η) (.v r1) hr) (Ok.here I S (.v r1) _)
 exact Yo e (fun q=>fin (q▸mk') rk) (fun q=>fin (q▸mi) ri) (fun q=>fin (q▸ma) ra)
theorem okc{f:Addr→Bool}{c:Nat}(hc:c<2)(h0:f (W.cls 0)=true)(h1:f (W.cls 1)=true):f (W.cls c)=true:=by
 match c,hc with
 |0,_=>exact h0
 |1,_=>exact h1
theorem A59(hW:WOK W)(I:Inv W P fr s.heap)(S:SR W P η σ){o x:Val}{v:Value}{a:Cs}{name:Str}{expr:Bool}(r:RV (W:=W) P η o v)
 (e:T0 o a σ=some x) (hr:rawV x=false) (hn:name=sv a) (hok:E0 W.K (W.cls 0) name=true) (hok1:E0 W.K (W.cls 1) name=true):
 wpAny (model W.prog W.w) A (getAttr v name expr) (Ok W fr P η s σ (norm σ x)) E s:=by
 subst hn
 have vec:∀{y:PV},Rv W P y v→pVec y (vecA a)=some x→wpAny (model W.prog W.w) A (getAttr v (sv a) expr) (Ok W fr P η s σ (norm σ x)) E s:=fun{y} r e=>by
  revert r;exact Zt e fun k i a' e r=>Ym hW I S r e hr hok
 refine(let GG:=_;(?_:GG))
 induction o using Val.casesOn with
 |v y=>exact vec r.inv e
 |h k=>
  obtain⟨ha⟩:=r.inv
  refine B9 e fun po q e=>?_
  cases S.obj k _ po ha q with
  |list=>exact nfo e
  |dict=>exact nfo e
  |dictl=>exact nfo e
  |froz r1=>exact vec r1 e
  |inst h1 i1 n1 h2 f1=>
   refine onIf e fun hc e=>?_
   obtain⟨m,hns,_,hm⟩:=T3 f1 (I.gh _ _ h2)
   obtain⟨u,e1,r1⟩:=hm a x e
   exact M5 hW I (I.gh _ _ h1) i1 hns (okc (f:=fun c=>E0 W.K c (sv a)) hc hok hok1) e1 (Oh r1 hr) (Ok.here I S (Pd S r1) _)
theorem A0f{β:Type}{a k:Cs}{x:β}{fs:List (Cs×β)}:look k (put a x fs)=if k=a then some x else look k fs:=by
 induction fs with
 |nil=>
  by_cases h:k=a
  ·simp[Fh,Jq,Cp,Dz,h]
  ·simp[Fh,Jq,Cp,Dz,h,Ne.symm h]
 |cons zz fs ih=>
  obtain⟨b,y⟩:=zz
  simp only[Fh,Jq]
  by_cases hb:b=a
  ·subst hb
   simp only[if_true,Cp,Dz]
   by_cases h:k=b
   ·simp[h]
   ·simp[h,Ne.symm h]
  ·simp only[hb,if_false,Cp,Dz]
   by_cases h:b=k
   ·subst h;simp[hb]
   ·simp only[h,if_false];exact ih
theorem Yh{m:Str→Option Value}{fs:List (Cs×Val)}(hm:∀k,look k fs=none→m (sv k)=none):Within m (fs.map fun e=>sv e.1):=by
 intro y hy
 rw[←A31 y]at hy⊢
 generalize y.cps.toList=z at hy⊢
 have:look z fs≠none:=fun q=>hy (hm z q)
 clear hm hy
 induction fs with
 |nil=>exact absurd rfl this
 |cons e fs ih=>
  obtain⟨k,x⟩:=e
  by_cases hk:k=z
  ·subst hk;exact .head _
  ·simp only[Cp,Dz,hk,if_false]at this
   exact .tail _ (ih this)
theorem Uz:sv cShared≠sv cKind∧sv cShared≠sv cItems∧sv cShared≠sv cAttrs:=by
 refine⟨?_,?_,?_⟩<;>(intro q;have:=Gv q;revert this;decide)
theorem Va(hW:WOK W)(I:Inv W P fr s.heap)(S:SR W P η σ){y:PV}{v u:Value}{a:Cs}{x:Val}(r:Rv W P y v)(e:vecS a x σ y=some σ')
 (hok:F9 W.K (W.cls 0) (sv a)=true):
 wpAny (model W.prog W.w) A (setAttr v (sv a) u) (fun J=>Ok W fr P η s σ' (.v .none) .none) E s:=by
 revert r
 refine Zt e fun k i a' e r=>onIf e fun hc e=>?_
 have e:σ=σ':=onVV e fun z e=>Ht e fun b e=>Option.some.inj e
 subst e hc
 obtain@⟨ra,d,o,k',i',x',h1,o1,d1,rk,ri,ra⟩:=r.inv
 obtain⟨m,hns,mk',mi,ma,ms,mall⟩:=I.gh _ _ d1
 refine Kt hW I (I.gh _ _ h1) o1 hns (ns:=[sv cKind,sv cItems,sv cAttrs,sv cShared,sv cLoose]) mall (by decide) hok fun h' tk hn' hs=>?_
 have st:Stp fr P s.heap P h':=⟨.refl P,fun J a b=>absurd a b,fun J h=>h,fun b o e hb=>⟨o.slots,(hs.2 b (by rintro rfl;cases hb.symm.trans d1)).trans e,fun J=>rfl⟩⟩
 refine⟨h',tk,rfl,P,η,st,.refl _,I.step st (fun b g e=>?_) hW.sys,S,.v .none⟩
 by_cases hb:b=d
 ·subst hb
  cases d1.symm.trans e
  obtain⟨c1,c2,c3⟩:=Uz
  refine⟨_,hn',(if_neg (Ne.symm c1)).trans mk',(if_neg (Ne.symm c2)).trans mi,(if_neg (Ne.symm c3)).trans ma,by rw[if_pos rfl];rfl,fun y hy=>?_⟩
  by_cases q:y=sv cShared
  ·exact q▸.tail _ (.tail _ (.tail _ (.head _)))
  ·rw[if_neg q]at hy;exact mall y hy
 ·exact(I.gh b g e).keeps fun o e=>(hs.2 b hb).trans e
theorem A0w(hW:WOK W)(I:Inv W P fr s.heap)(S:SR W P η σ){x:Val}{u:Value}{a:Cs}{k c:Nat}{b d:Addr}{oo od:Obj}{fs:List (Cs×Val)}(ha:η[k]?=some b)(rx:RV (W:=W) P η x u)(h1:P b=some (.mu k oo))(i1:InsO oo (W.cls c) d)(n1:d≠b)
 (h2:P d=some (.mu k od)) (f1:FldO (W:=W) P η od fs) (hsz:small fs.length=true) (hokc:F9 W.K (W.cls c) (sv a)=true):
 wpAny (model W.prog W.w) A (setAttr (.ref b) (sv a) u) (fun J=>Ok W fr P η s (σ.set k (.inst c (put a x fs))) (.v .none) .none) E s:=by
 refine(let GG:=_;(?_:GG))
 have hsz:=Ay hsz
 obtain⟨m,hns,hno,hm⟩:=T3 f1 (I.gh _ _ h2)
 refine Kt hW I (I.gh _ _ h1) i1 hns (Yh hno) (by rw[List.length_map];omega) hokc fun h' tk hn' hs=>?_
 refine(let GG:=_;(?_:GG))
 obtain⟨od',es,ep,q1,q2,q3,q4,q5⟩:=hn'
 have l:=Bn (P:=P) (a:=d) (g:=.mu k od') (.inr ⟨k,_,h2⟩)
 have kk:∀b' o',b'≠d→s.heap.get? b'=some o'→h'.get? b'=some o':=fun b' o' hb' e'=>(hs.2 b' hb').trans e'
 refine⟨h',tk,rfl,_,η,De (g:=.mu k od') h2 kk,.refl _,E2 hW.sys I h2 kk q1,S.set l ha (E1 h2) (.inst ((B6 (Ne.symm n1)).trans h1) i1 n1 (Ap ..) ⟨es,ep,_,q2,q3,q4,q5,fun z hz=>?_,fun z y hz=>?_⟩),.v .none⟩
 all_goals rw[A0f]at hz
 all_goals by_cases hza:z=a
 ·rw[if_pos hza]at hz;exact nfo hz.symm
 ·rw[if_neg hza]at hz
  rw[if_neg (fun q=>hza (Gv q))];exact hno z hz
 ·rw[if_pos hza]at hz
  exact⟨u,if_pos (congrArg sv hza),Option.some.inj hz▸rx.mono l (.refl _)⟩
 ·rw[if_neg hza]at hz
  obtain⟨w',e1,r1⟩:=hm z y hz
  exact⟨w',(if_neg (fun q=>hza (Gv q))).trans e1,r1.mono l (.refl _)⟩
theorem Qx(hW:WOK W)(I:Inv W P fr s.heap)(S:SR W P η σ){o x:Val}{v u:Value}{a:Cs}{name:Str}(r:RV (W:=W) P η o v)(rx:RV (W:=W) P η x u)
 (e:E4 o a x σ=some σ') (hn:name=sv a) (hok:F9 W.K (W.cls 0) name=true) (hok1:F9 W.K (W.cls 1) name=true):
 wpAny (model W.prog W.w) A (setAttr v name u) (fun J=>Ok W fr P η s σ' (.v .none) .none) E s:=by
 subst hn
 refine(let GG:=_;(?_:GG))
 induction o using Val.casesOn with
 |v y=>exact Va hW I S r.inv e hok
 |h k=>
  obtain⟨ha⟩:=r.inv
  refine B9 e fun po q e=>?_
  cases S.obj k _ po ha q with
  |list=>exact nfo e
  |dict=>exact nfo e
  |dictl=>exact nfo e
  |froz r1=>exact Va hW I S r1 e hok
  |inst h1 i1 n1 h2 f1=>
   refine onIf e fun hc e=>?_
   obtain⟨hc,hsz⟩:=Bool.and_eq_true_iff.mp hc
   cases e
   exact A0w hW I S ha rx h1 i1 n1 h2 f1 hsz (okc (f:=fun c=>F9 W.K c (sv a)) (of_decide_eq_true hc) hok hok1)
end
end Mine.Internal
namespace Mine.Internal
open PySem PySem.W PyProof.Rows PySem.SeqAt PySem.MeetsSeq
variable {W:Wd} {P P':GM} {fr:List Env} {h h':Heap} {η η':List Addr} {σ σ':Sto}
section
variable {A:Around} {E:Value→Shared→Prop} {s:Shared} {n:Nat}
theorem Jn{k k':Str}{u v:Value}{kvs:List (Str×Value)}(hk:k'≠k):stored ((k',u)::kvs) k v=(k',u)::stored kvs k v:=by
 unfold stored
 have e:((k',u)::kvs).any (fun kv=>decide (kv.1=k))=kvs.any (fun kv=>decide (kv.1=k)):=by simp[hk]
 rw[e]
 split<;>simp[hk]
theorem Qr{k:Str}{u v:Value}{kvs:List (Str×Value)}(hn:k∉kvs.map (·.1)):stored ((k,u)::kvs) k v=(k,v)::kvs:=by
 unfold stored
 have e:((k,u)::kvs).any (fun kv=>decide (kv.1=k))=true:=by simp
 rw[if_pos e]
 simp only[List.map_cons,if_true]
 congr 1
 conv=>rhs;rw[←List.map_id kvs]
 apply List.map_congr_left
 intro kv hkv
 have:kv.1≠k:=fun q=>hn (q▸List.mem_map_of_mem hkv)
 simp[this]
set_option tactic.hygienic true in
theorem Wn{k:Cs}{x:PV}{v:Value}(rx:Rv W P x v){es:List (Cs×PV)}:∀{kvs:List (Str×Value)},Rvd W P es kvs→(kvs.map (·.1)).Nodup→Rvd W P (put k x es) (stored kvs (sv k) v):=by
 induction es with
 |nil=>intro _ r _;cases r;exact .cons rx .nil
 |cons a es ih=>
  intro kvs r hn
  cases r with|cons ry r=>
  rename_i k' y kvs u
  rw[List.map_cons,List.nodup_cons]at hn
  rw[Fh]
  by_cases hk:k'=k
  ·subst hk
   rw[if_pos rfl,Qr hn.1]
   exact .cons rx r
  ·rw[if_neg hk,Jn (fun q=>hk (Gv q))]
   exact .cons ry (ih r hn.2)
theorem Rvd.length{es:List (Cs×PV)}{kvs:List (Str×Value)}(r:Rvd W P es kvs):es.length=kvs.length:=by
 induction es generalizing kvs with
 |nil=>cases r;rfl
 |cons e es ih=>cases r with|cons _ q=>simp[ih q]
theorem Uf{o:Obj}{kvs:List (Str×Value)}(d:o.IsDictOf (PySem.strKind W.prog W.w) kvs):(kvs.map (·.1)).Nodup:=by obtain⟨_,_,_,_,_,_,r⟩:=d;exact r
theorem Tv{l:Addr}{items:Array Value}{e:Nat}{k:Int}{t:Tok}{v:Value}{Q:Unit→Shared→Prop}(ho:s.heap.get? l=some {cls:=.type "list",dict:=none,data:=.seq items e,slots:= #[]})
 (h0:0≤k) (hk:k.toNat<items.size) (hfit:k<2^63) (h:Q () {s with heap:=s.heap.update l (Obj.mapSeq (·.setIfInBounds k.toNat v))}):wpAny (model W.prog W.w) A (setItem (.ref l) (.int k t) v) Q E s:=by
 have hT:s.TypeIs (.ref l) "list":=⟨_,ho,rfl⟩
 have hfi:Builtin.List.listFitsIndex k=true:=fitsIndex_of h0 hfit
 clear hfit
 unfold setItem
 try with_reducible refine wpAny_holding ?_
 first|refine wpAny_bind (wpAny_pure ?_)|skip
 refine wpAny_bind (wpAny_sequenceKey hT (by decide) ?_)
 refine wpAny_bind (wpAny_callSpecial?_slot (name:=Str.ofString "__setitem__") hT PySem.slot_list_setitem (wpAny_call_entry PySem.slot_list_setitem hT PySem.entry_list_setitem ?_ (PySem.args_list_setitem _ _ _)))
 show wpAny _ _ (Builtin.List.listSubscript? (.int k t)>>=_) _ _ s
 refine wpAny_bind (wpAny_listSubscript_int hfi ?_)
 clear hfi
 obtain⟨j,rfl⟩:=Int.eq_ofNat_of_zero_le h0
 have hk:j<items.size:=hk
 refine(let GG:=_;(?_:GG))
 have hx:items[j]?=some items[j]:=Array.getElem?_eq_getElem hk
 show wpAny _ _ ((seqItemAt l j>>=fun r=>pure (r.map (j,·)))>>=_) _ _ s
 refine wpAny_bind (wpAny_bind (wpAny_seqItemAt ho rfl (wpAny_pure ?_)))
 rw[hx]
 show wpAny _ _ (setSeqItemAt l j v>>=_) _ _ s
 refine wpAny_bind (wpAny_setSeqItemAt ho rfl ?_)
 first
  |exact wpAny_bind (wpAny_pure (wpAny_pure ⟨.none,rfl,wpAny_pure h⟩))
  |exact wpAny_pure ⟨.none,rfl,wpAny_pure h⟩
theorem Y0(hS:By W)(I:Inv W P fr s.heap)(S:SR W P η σ){k:Nat}{a:Addr}{o:Obj}{es':List (Cs×PV)}{kvs':List (Str×Value)}{tk:Nat}{z:PV}{v:Value}
 (ha:η[k]?=some a) (hp:P a=some (.mu k o)) (hd:h'.DictOf (PySem.strKind W.prog W.w) a kvs') (hs:Heap.SameBut a s.heap h') (r:Rvd W P es' kvs') (hz:Rv W P z v):
 Ok W fr P η s (σ.set k (.dict es')) (.v z) v {s with heap:=h',toks:=tk}:=by
 obtain⟨o',hg,hd'⟩:=Heap.dictOf_iff.mp hd
 have l:=Bn (P:=P) (a:=a) (g:=.mu k o') (.inr ⟨k,_,hp⟩)
 have kk:∀b' o',b'≠a→s.heap.get? b'=some o'→h'.get? b'=some o':=fun b' o' hb' e'=>(hs.2 b' hb').trans e'
 refine⟨h',tk,rfl,_,η,De (g:=.mu k o') hp kk,.refl _,E2 hS I hp kk hg,?_,.v (hz.mono l)⟩
 exact S.set l ha (E1 hp) (.dict (Ap ..) hd' (r.mono l))
theorem Rvs.set{xs:List PV}{vs:List Value}(r:Rvs W P xs vs){x:PV}{v:Value}(rx:Rv W P x v)(j:Nat):Rvs W P (xs.set j x) (vs.set j v):=by
 induction xs generalizing vs j with
 |nil=>cases r;exact .nil
 |cons y xs ih=>cases r with
  |cons p q=>induction j using Nat.casesOn with
   |zero=>exact .cons rx q
   |succ j=>exact .cons p (ih q j)
theorem Qw(hW:WOK W)(I:Inv W P fr s.heap)(S:SR W P η σ){o i x:Val}{v u w:Value}(r:RV (W:=W) P η o v)(ri:RV (W:=W) P η i u)(rx:RV (W:=W) P η x w)
 (e:E3 o i x σ=some σ'):wpAny (model W.prog W.w) A (setItem v u w) (fun J=>Ok W fr P η s σ' (.v .none) .none) E s:=by
 refine(let GG:=_;(?_:GG))
 have hS:=hW.sys
 refine B9 e fun q hf e=>?_
 obtain⟨P1,s1,I1,S1,r1⟩:=Dk hS I S rx hf
 revert r
 refine onVH e fun k e r=>?_
 obtain⟨ha⟩:=r.inv
 revert ri
 refine onVV e fun i e ri=>?_
 have ri:=ri.inv
 induction i using PV.casesOn<;>first|exact nfo e|skip
 ·obtain⟨t,rfl⟩:=ri.inv
  refine Hs e fun xs hl e=>onIf e fun hs e=>?_
  cases e
  rw[Bool.and_eq_true,Bool.and_eq_true]at hs
  have h0:=of_decide_eq_true hs.1.1
  have h1:=of_decide_eq_true hs.1.2
  have h2:=Ay hs.2
  refine(let GG:=_;(?_:GG))
  obtain⟨us,m,hp,r2⟩:=Jj S1 ha hl
  exact Tv (I1.gh _ _ hp) h0 (show _<us.length from r2.length▸h1) (by omega) (Ok.after s1 (E8 hS I1 S1 ha hp (by simp) (r2.set r1 _) .none))
 ·obtain⟨t,rfl⟩:=ri.inv
  refine A3v e fun es hl e=>onIf e fun hs e=>?_
  cases e
  cases S1.obj k _ _ ha hl with
  |dict hp hd rd=>
   have hD:s.heap.DictOf (PySem.strKind W.prog W.w) _ _:=Heap.dictOf_iff.mpr ⟨_,I1.gh _ _ hp,hd⟩
   exact wpAny_setItem_pairs (strKind_is _ _ _ _) hD (fun h' hd' hs'=>Ok.after s1 (Y0 hS I1 S1 ha hp hd' hs' (Wn r1 rd (Uf hd)) .none)) (by rw[←rd.length];exact Bt hs)
end
end Mine.Internal
namespace Mine.Internal
open PySem PySem.W PyProof.Rows PySem.SeqAt PySem.MeetsSeq
variable {W:Wd} {P P':GM} {fr:List Env} {h h':Heap} {η η':List Addr} {σ σ':Sto}
section
variable {A:Around} {E:Value→Shared→Prop} {s:Shared} {n:Nat}
noncomputable def zipD{β:Type}(es:List (Cs×β))(as:List Addr):List (Str×Value):=(es.map fun e=>sv e.1).zip (as.map Value.ref)
theorem A0g{β:Type}{k:Cs}{x:β}{es:List (Cs×β)}:look k es=some x→∃j,es[j]?=some (k,x)∧(∀y,put k y es=es.set j (k,y))∧
 ∀as:List Addr,as.length=es.length→valueAt (zipD es as) (sv k)=(as[j]?).map Value.ref:=by
 induction es with
 |nil=>
  intro e
  cases e
 |cons zz es ih=>
  obtain⟨k',y⟩:=zz
  intro e
  simp only[Cp,Dz]at e
  by_cases hk:k'=k
  ·subst hk
   rw[if_pos rfl]at e;cases e
   refine⟨0,rfl,fun y=>by simp[Fh,Jq],fun as hl=>?_⟩
   induction as using List.casesOn with
   |nil=>simp at hl
   |cons b as=>simp[zipD,valueAt]
  ·rw[if_neg hk]at e
   obtain⟨j,e1,e2,e3⟩:=ih e
   refine⟨j+1,by simpa using e1,fun y=>by simp[Fh,Jq,hk,e2],fun as hl=>?_⟩
   induction as using List.casesOn with
   |nil=>simp at hl
   |cons b as=>
    have:=e3 as (by simpa using hl)
    have hne:¬sv k'=sv k:=fun q=>hk (Gv q)
    simp only[zipD,List.map_cons,List.zip_cons_cons,valueAt,List.find?_cons,hne,decide_false]at this⊢
    simpa using this
theorem Hw{β:Type}{k:Cs}:∀{es:List (Cs×β)},look k es=none→(∀y,put k y es=es++[(k,y)])∧∀as:List Addr,valueAt (zipD es as) (sv k)=none∧∀v,stored (zipD es as) (sv k) v=zipD es as++[(sv k,v)]:=by
 intro es
 induction es with
 |nil=>exact fun J=>⟨fun y=>rfl,fun as=>⟨by simp[zipD,valueAt],fun v=>by simp[zipD,stored]⟩⟩
 |cons x es Hw=>
  obtain⟨k',y⟩:=x
  intro e
  simp only[Cp,Dz]at e
  by_cases hk:k'=k
  ·rw[if_pos hk]at e;cases e
  ·rw[if_neg hk]at e
   obtain⟨e1,e2⟩:=Hw e
   have hne:¬sv k'=sv k:=fun q=>hk (Gv q)
   refine⟨fun y=>by simp[Fh,Jq,hk,e1],fun as=>?_⟩
   induction as using List.casesOn with
   |nil=>exact⟨by simp[zipD,valueAt],fun v=>by simp[zipD,stored]⟩
   |cons b as=>
    obtain⟨q1,q2⟩:=e2 as
    constructor
    ·simp only[zipD,List.map_cons,List.zip_cons_cons,valueAt,List.find?_cons,hne,decide_false]at q1⊢
     exact q1
    ·intro v
     show stored ((sv k',Value.ref b)::zipD es as) (sv k) v=_
     rw[Jn hne,q2];rfl
inductive MidS(W:Wd)(fr:List Env)(P:GM)(η:List Addr)(s:Shared)(σ:Sto)(o k:Val)(lv:Value)(s2:Shared):Prop
 |mk (b:Addr) (items:List Value) (e:Nat) (h2:Heap) (tk:Tok) (e1:lv=.ref b) (e2:s2={s with heap:=h2,toks:=tk}) (e3:h2.get? b=some (lob items e)) (e4:∀c oc,s.heap.get? c=some oc→P c=none→h2.get? c=some oc)
  (e5:∀x v σ' tk',Rv W P x v→sdApp o k x σ=some σ'→items.length≤4096∧Ok W fr P η s σ' (.v .none) .none {s with heap:=h2.update b (Obj.mapSeq fun xs=>xs.push v),toks:=tk'}):MidS W fr P η s σ o k lv s2
theorem Rh(vs:List Value)(e:Nat)(v:Value):(lob vs e).mapSeq (fun xs=>xs.push v)=lob (vs++[v]) (e+1):=by
 show Obj.mk _ _ (.seq (vs.toArray.push v) (if(vs.toArray.push v).size==vs.toArray.size then e else e+1)) _=_
 simp[lob]
noncomputable def A2s(W:Wd)(P:GM)(i:Nat)(as:List Addr)(es:List (Cs×List PV)):Prop:=∀(j:Nat) (b:Addr) (e:Cs×List PV),as[j]?=some b→es[j]?=some e→∃vs k,P b=some (.mu i (lob vs k))∧Rvs W P e.2 vs
theorem Ri{h:Heap}{b:Addr}{vs:List Value}{e:Nat}{v:Value}(hb:h.get? b=some (lob vs e)):(h.update b (Obj.mapSeq fun xs=>xs.push v)).get? b=some (lob (vs++[v]) (e+1)):=by
 rw[←Rh]
 exact Heap.get?_update_self _ hb (by rw[Rh];rfl)
theorem A4k(hS:By W)(I:Inv W P fr h)(S:SR W P η σ){i:Nat}{a d:Addr}{k:Cs}{x:PV}{v:Value}{es:List (Cs×List PV)}{as:List Addr}{o o':Obj}{h1 h2:Heap}(ha:η[i]?=some a)(hd0:h.get? d=none)(kp:∀c oc,h.get? c=some oc→h1.get? c=some oc)(g1:h1.get? d=some (lob [v] 1))
 (kk:∀c oc,c≠a→h1.get? c=some oc→h2.get? c=some oc) (g2:h2.get? a=some o') (hp:P a=some (.mu i o)) (hdo:o'.IsDictOf (PySem.strKind W.prog W.w) (zipD es as++[(sv k,.ref d)])) (hl:as.length=es.length) (hnd:(a::as).Nodup) (hes:A2s W P i as es) (rx:Rv W P x v):
 ∃P',Stp fr P h P' h2∧Inv W P' fr h2∧SR W P' η (σ.set i (.dictl (es++[(k,[x])]))):=by
 have hPd:=Ad I hd0
 have ned:∀{b:Addr} {g:Gh},P b=some g→b≠d:=fun e q=>by rw[q,hPd]at e;cases e
 have hp1:upd P d (.mu i (lob [v] 1)) a=some (.mu i o):=by rw[B6 (ned hp)];exact hp
 have sA:=C7 (fr:=fr) (g:=.mu i (lob [v] 1)) I kp hd0
 have IA:=Cr (g:=.mu i (lob [v] 1)) hS I kp hd0 g1
 have sB:=De (fr:=fr) (g:=.mu i o') hp1 kk
 have l:=sA.le.trans sB.le
 have keepB:∀b∈as,b≠a:=fun b hb q=>(List.nodup_cons.mp hnd).1 (q▸hb)
 refine⟨_,sA.trans sB,E2 hS IA hp1 kk g2,S.set l ha (fun c m oc hm e=>E1 hp1 c m oc hm (At hPd c m oc trivial e)) (.dictl (as:=as++[d]) (Ap ..) hdo ?_ (by simp[hl]) ?_ ?_)⟩
 ·show _=zipD (es++[(k,[x])]) (as++[d])
  simp only[zipD,List.map_append]
  rw[List.zip_append (by simp[hl])];rfl
 ·rw[←List.cons_append,List.nodup_append]
  refine⟨hnd,by simp,fun c hc b hb q=>?_⟩
  cases List.mem_singleton.mp hb
  subst q
  rcases List.mem_cons.mp hc with rfl|hc
  ·exact ned hp rfl
  ·obtain⟨j,hj⟩:=List.getElem?_of_mem hc
   obtain⟨vs,k',e1,_⟩:=hes j _ _ hj (List.getElem?_eq_getElem (hl▸Cg hj))
   exact ned e1 rfl
 ·intro j b e hj he
  rcases Nat.lt_or_ge j as.length with hjl|hjl
  ·rw[List.getElem?_append_left hjl]at hj
   rw[List.getElem?_append_left (hl▸hjl)]at he
   obtain⟨vs,k',e1,e2⟩:=hes j b e hj he
   exact⟨vs,k',by rw[B6 (keepB b (List.mem_of_getElem? hj)),B6 (ned e1)];exact e1,e2.mono l⟩
  ·have:j=as.length:=by have:=Cg hj;simp at this;omega
   subst this
   rw[List.getElem?_append_right (Nat.le_refl _),Nat.sub_self]at hj
   rw[hl,List.getElem?_append_right (Nat.le_refl _),Nat.sub_self]at he
   cases hj;cases he
   exact⟨[v],1,by rw[B6 (ned hp).symm,Ap],.cons (rx.mono l) .nil⟩
theorem A13(hS:By W)(I:Inv W P fr h)(S:SR W P η σ){i j ep:Nat}{a b:Addr}{k:Cs}{x:PV}{v:Value}{es:List (Cs×List PV)}{as:List Addr}{o:Obj}{xs:List PV}{vs:List Value}{h2:Heap}(ha:η[i]?=some a)(hja:as[j]?=some b)(e1:es[j]?=some (k,xs))(hpb:P b=some (.mu i (lob vs ep)))(rb:Rvs W P xs vs)
 (kk:∀c oc,c≠b→h.get? c=some oc→h2.get? c=some oc) (g2:h2.get? b=some (lob (vs++[v]) (ep+1))) (hp:P a=some (.mu i o)) (hdo:o.IsDictOf (PySem.strKind W.prog W.w) (zipD es as)) (hl:as.length=es.length) (hnd:(a::as).Nodup) (hes:A2s W P i as es) (rx:Rv W P x v):
 ∃P',Stp fr P h P' h2∧Inv W P' fr h2∧SR W P' η (σ.set i (.dictl (es.set j (k,xs++[x])))):=by
 have st:=De (fr:=fr) (g:=.mu i (lob (vs++[v]) (ep+1))) hpb kk
 have hnd:=List.nodup_cons.mp hnd
 have hjl:=Cg e1
 have hab:a≠b:=fun q=>hnd.1 (by rw[q];exact List.mem_of_getElem? hja)
 refine⟨_,st,E2 hS I hpb kk g2,S.set st.le ha (E1 hpb) (.dictl (as:=as) (by rw[B6 hab];exact hp) hdo ?_ (by simp[hl]) (List.nodup_cons.mpr hnd) ?_)⟩
 ·show zipD es as=zipD (es.set j _) as
  unfold zipD
  congr 1
  apply List.ext_getElem?
  intro m
  simp only[List.getElem?_map,List.getElem?_set]
  by_cases hm:j=m
  ·subst hm;simp only[if_true,hjl,e1];rfl
  ·simp[hm]
 ·intro m c e hm he
  by_cases hmj:m=j
  ·subst hmj
   cases hja.symm.trans hm
   rw[List.getElem?_set_self hjl]at he;cases he
   exact⟨_,_,Ap ..,(rb.mono st.le).append (.cons (rx.mono st.le) .nil)⟩
  ·rw[List.getElem?_set_ne (Ne.symm hmj)]at he
   obtain⟨vs',k',q1,q2⟩:=hes m c e hm he
   suffices hcb:c≠b from⟨vs',k',by rw[B6 hcb];exact q1,q2.mono st.le⟩
   intro q3
   subst q3
   have hml:=Cg hm
   have hjl:=Cg hja
   rw[List.getElem?_eq_getElem hml]at hm
   rw[List.getElem?_eq_getElem hjl]at hja
   exact hmj ((List.getElem_inj hnd.2).mp ((Option.some.inj hm).trans (Option.some.inj hja).symm))
theorem Z3{i:Nat}{k:Cs}{x:PV}{σ':Sto}{po:PO}(q:σ[i]?=some po)(e:sdApp (.h i) (.v (.str k)) x σ=some σ'):sdO k x σ i po=some σ':=by
 have e:(σ[i]?).bind (sdO k x σ i)=some σ':=e
 rw[q]at e;exact e
theorem Qy(hW:WOK W)(I:Inv W P fr s.heap)(S:SR W P η σ){i:Nat}{a:Addr}{k:Cs}{t:Tok}(ha:η[i]?=some a)(tk0:Nat){es:List (Cs×List PV)}{as:List Addr}{o:Obj}(hp:P a=some (.mu i o))(hd:o.IsDictOf (PySem.strKind W.prog W.w) (zipD es as))(hl:as.length=es.length)(hnd:(a::as).Nodup)
 (hes:A2s W P i as es) (hlk:look k es=none) (hsz:es.length≤4096) (hres:∀x σ',sdApp (.h i) (.v (.str k)) x σ=some σ'→σ'=σ.set i (.dictl (es++[(k,[x])]))):
 wpAny (model W.prog W.w) A (call (.builtin "dict.setdefault") [.ref a,.str (sv k) t,.ref s.heap.objs.size]) (MidS W fr P η s σ (.h i) (.v (.str k))) E {s with heap:=s.heap.push (lob [] 0),toks:=tk0}:=by
 have hnone:=Ak s.heap
 have hga:s.heap.get? a=some o:=I.gh _ _ hp
 have hane:a≠s.heap.objs.size:=fun q=>by rw[q,hnone]at hga;cases hga
 obtain⟨n1,n2⟩:=Hw hlk
 have hD:(s.heap.push (lob [] 0)).DictOf (PySem.strKind W.prog W.w) a (zipD es as):=Heap.dictOf_iff.mpr ⟨o,Heap.get?_push_of_some _ hga,hd⟩
 have hkl:(zipD es as).length≤sizeLine:=by rw[zipD,List.length_zip,List.length_map,List.length_map,hl,Nat.min_self,sizeLine_eq];omega
 refine call_meetsIn F.slot_dict_setdefault (Heap.DictOf.typeIs (s:={s with heap:=s.heap.push (lob [] 0),toks:=tk0}) hD) F.entry_dict_setdefault (F.args_dict_setdefault_3 _ _ _) (kt_meets_setdefault (PySem.strKind W.prog W.w) a (strKind_is _ _ _ _) (J2 I.sys hp) _) ⟨_,hD,hkl,fun v hv=>(nomatch (n2 as).1.symm.trans hv),fun J h' hd' hs'=>?_⟩
 obtain⟨o',hg',hdo'⟩:=Heap.dictOf_iff.mp hd'
 rw[(n2 as).2]at hdo'
 have hgn:h'.get? s.heap.objs.size=some (lob [] 0):=(hs'.2 _ (Ne.symm hane)).trans (Heap.get?_push_size _ rfl)
 have kk:∀c oc,c≠a→s.heap.get? c=some oc→h'.get? c=some oc:=fun c oc hc e=>(hs'.2 c hc).trans (Heap.get?_push_of_some _ e)
 refine⟨s.heap.objs.size,[],0,h',_,rfl,rfl,hgn,fun c oc e hc=>kk c oc (by rintro rfl;cases hp.symm.trans hc) e,fun x v σ' tk' rx es'=>⟨Nat.zero_le _,?_⟩⟩
 rw[hres x σ' es']
 obtain⟨P',st,I',S'⟩:=A4k (h1:=s.heap.push (lob [v] 1)) (h2:=h'.update s.heap.objs.size (Obj.mapSeq fun xs=>xs.push v)) hW.sys I S (x:=x) (v:=v) ha hnone (fun c oc e=>Heap.get?_push_of_some _ e) (Heap.get?_push_size _ rfl) (fun c oc hc e=>by
  by_cases q:c=s.heap.objs.size
  ·subst q;cases(Heap.get?_push_size (h:=s.heap) (o:=lob [v] 1) rfl).symm.trans e;exact Ri hgn
  ·exact Dd c oc q (kk c oc hc ((Heap.get?_push_ne _ _ _ q).symm.trans e))) (Dd a _ hane hg') hp hdo' hl hnd hes rx
 exact⟨_,tk',rfl,P',η,st,.refl _,I',S',.v .none⟩
set_option tactic.hygienic true in
theorem A9g(hW:WOK W)(I:Inv W P fr s.heap)(S:SR W P η σ){i:Nat}{a:Addr}{k:Cs}{t:Tok}(ha:η[i]?=some a)(hex:∃x σ',sdApp (.h i) (.v (.str k)) x σ=some σ')(tk0:Nat):
 wpAny (model W.prog W.w) A (call (.builtin "dict.setdefault") [.ref a,.str (sv k) t,.ref s.heap.objs.size]) (MidS W fr P η s σ (.h i) (.v (.str k))) E {s with heap:=s.heap.push (lob [] 0),toks:=tk0}:=by
 refine(let GG:=_;(?_:GG))
 obtain⟨x0,σ0,e0⟩:=hex
 refine B9 (show(σ[i]?).bind (sdO k x0 σ i)=some σ0 from e0) fun po q e0=>?_
 cases S.obj i a po ha q with
 |list=>exact nfo e0
 |froz=>exact nfo e0
 |inst=>exact nfo e0
 |@dict es o kvs hp hd rd=>
  induction es using List.casesOn with
  |cons=>exact nfo e0
  |nil=>
   cases rd
   exact Qy (es:=[]) (as:=[]) hW I S ha tk0 hp hd rfl (List.nodup_cons.mpr ⟨List.not_mem_nil,List.nodup_nil⟩) (fun j b e hj=>nomatch hj) rfl (Nat.zero_le _) fun x σ' e=>(Option.some.inj (Z3 q e)).symm
 |@dictl es o kvs as hp hd hk hl hnd hes=>
  subst hk
  refine onIf e0 fun hs e0=>?_
  rw[Bool.and_eq_true]at hs
  have h1:=Ay hs.1
  have h2:=Ay hs.2
  cases hlk:look k es with
  |none=>exact Qy hW I S ha tk0 hp hd hl hnd hes hlk h1 fun x σ' e=>onIf (Z3 q e) fun J e=>by rw[hlk,(Hw hlk).1]at e;exact(Option.some.inj e).symm
  |some xs=>
   rw[hlk]at h2
   obtain⟨j,e1,e2,e3⟩:=A0g hlk
   obtain⟨b,hja⟩:∃b,as[j]?=some b:=⟨_,List.getElem?_eq_getElem (hl▸Cg e1)⟩
   obtain⟨vs,ep,hpb,rb⟩:=hes j _ _ hja e1
   have hga:s.heap.get? a=some o:=I.gh _ _ hp
   have hgb:s.heap.get? b=some (lob vs ep):=I.gh _ _ hpb
   have hD:(s.heap.push (lob [] 0)).DictOf (PySem.strKind W.prog W.w) a (zipD es as):=Heap.dictOf_iff.mpr ⟨o,Heap.get?_push_of_some _ hga,hd⟩
   have hkl:(zipD es as).length≤sizeLine:=by rw[zipD,List.length_zip,List.length_map,List.length_map,hl,Nat.min_self,sizeLine_eq];omega
   have hval:valueAt (zipD es as) (sv k)=some (.ref b):=by rw[e3 as hl,hja];rfl
   refine call_meetsIn F.slot_dict_setdefault (Heap.DictOf.typeIs (s:={s with heap:=s.heap.push (lob [] 0),toks:=tk0}) hD) F.entry_dict_setdefault (F.args_dict_setdefault_3 _ _ _) (kt_meets_setdefault (PySem.strKind W.prog W.w) a (strKind_is _ _ _ _) (J2 I.sys hp) _) ⟨_,hD,hkl,fun v hv=>?_,fun hn=>(nomatch hval.symm.trans hn)⟩
   cases hval.symm.trans hv
   refine⟨b,vs,ep,_,_,rfl,rfl,Heap.get?_push_of_some _ hgb,fun c oc e hc=>Heap.get?_push_of_some _ e,fun x v σ' tk' rx es'=>⟨rb.length▸h2,?_⟩⟩
   have hres:σ'=σ.set i (.dictl (es.set j (k,xs++[x]))):=onIf (Z3 q es') fun J es'=>by rw[hlk,e2]at es';exact(Option.some.inj es').symm
   rw[hres]
   refine(let GG:=_;(?_:GG))
   obtain⟨P',st,I',S'⟩:=A13 (h2:=(s.heap.push (lob [] 0)).update b (Obj.mapSeq fun xs=>xs.push v)) hW.sys I S (v:=v) ha hja e1 hpb rb (fun c oc hc e=>Dd c oc hc (Heap.get?_push_of_some _ e)) (Ri (Heap.get?_push_of_some _ hgb)) hp hd hl hnd hes rx
   exact⟨_,tk',rfl,P',η,st,.refl _,I',S',.v .none⟩
end
end Mine.Internal
namespace Mine.Internal
open PySem PySem.W PyProof.Rows PySem.SeqAt PySem.MeetsSeq
variable {W:Wd} {P P':GM} {fr:List Env} {h h':Heap} {η η':List Addr} {σ σ':Sto}
section
variable {A:Around} {E:Value→Shared→Prop} {s:Shared} {n:Nat}
noncomputable def slcO(a b c:Value):Obj:={cls:=.type "slice",data:=.fields #[a,b,c]}
theorem Nj(xs:Array Value):∀k:Nat,k≤xs.size→((List.range k).map fun j=>xs.size-1-j).filterMap (xs[·]?)=xs.toList.reverse.take k
 |0,_=>by simp
 |k+1,h=>by
  rw[List.range_succ,List.map_append,List.filterMap_append,Nj xs k (Nat.le_of_succ_le h),List.take_add_one]
  congr 1
  have e:xs.toList.reverse[k]?=xs[xs.size-1-k]?:=by
   rw[List.getElem?_reverse (by rw[Array.length_toList];exact h)];simp
  rw[e]
  rfl
theorem Mt(items:Array Value):slicePick items none none (some (-1))=items.toList.reverse.toArray:=by
 unfold slicePick sliceBounds
 have e:sliceRange ((items.size:Int)-1) (-1) (-1)=(List.range items.size).map fun k=>items.size-1-k:=by
  unfold sliceRange
  have h1:¬((-1:Int)>0):=by decide
  simp only[h1,if_false]
  have h2:(if(items.size:Int)-1> -1 then((items.size:Int)-1-(-1)-(-1)-1)/(-(-1))else 0).toNat=items.size:=by
   generalize items.size=n
   induction n using Nat.casesOn with
   |zero=>rfl
   |succ m=>
    rw[Int.natCast_succ,Int.add_sub_cancel,if_pos (Int.lt_of_lt_of_le (by decide) (Int.natCast_nonneg m)),show(-(-1):Int)=1 from rfl,Int.ediv_one,Int.sub_neg,Int.sub_neg,Int.add_sub_cancel]
    rfl
  rw[h2]
  apply List.map_congr_left
  intro k hk
  obtain⟨d,hd⟩:=Nat.exists_eq_add_of_lt (List.mem_range.mp hk)
  rw[hd,Nat.add_sub_cancel,Nat.add_sub_cancel_left,Int.natCast_succ,Int.add_sub_cancel,Int.neg_mul,Int.one_mul,Int.natCast_add,Int.add_comm (k:Int) d,Int.add_neg_cancel_right]
  rfl
 show(((sliceRange ((items.size:Int)-1) (-1) (-1)).filterMap (items[·]?))).toArray=_
 rw[e,Nj items items.size (Nat.le_refl _),List.take_of_length_le (by simp)]
theorem Ok.from{x:Val}{v:Value}{o:Obj}{tk tk':Nat}{h2:Heap}(st:Stp fr P s.heap P (s.heap.push o))(a:After W fr P η (s.heap.push o) σ' x v h2):Ok W fr P η s σ' x v {s with heap:=h2,toks:=tk'}:=
 ⟨h2,tk',rfl,.trans st (.refl _) a⟩
theorem Rvs.take{xs:List PV}{vs:List Value}(r:Rvs W P xs vs)(j:Nat):Rvs W P (xs.take j) (vs.take j):=by
 induction xs generalizing vs j with
 |nil=>cases r;simp;exact .nil
 |cons y xs ih=>cases r with
  |cons p q=>induction j using Nat.casesOn with
   |zero=>exact .nil
   |succ j=>exact .cons p (ih q j)
theorem Rvs.drop{xs:List PV}{vs:List Value}(r:Rvs W P xs vs)(j:Nat):Rvs W P (xs.drop j) (vs.drop j):=by
 induction xs generalizing vs j with
 |nil=>cases r;simp;exact .nil
 |cons y xs ih=>cases r with
  |cons p q=>induction j using Nat.casesOn with
   |zero=>exact .cons p q
   |succ j=>exact ih q j
theorem J4(hW:WOK W)(I:Inv W P fr s.heap)(S:SR W P η σ){value slice:Expr}{xs ys:List PV}{v a b c:Value}{lo hi st:Option Int}{m:Bool}{ops:List Value}{tk:Nat}(hx:Rw (W:=W) P (.lst xs) v)(hs:small xs.length=true)
 (pa:IsPart a lo) (pb:IsPart b hi) (pc:IsPart c st) (h0:st≠some 0) (hy:∀vs,Rvs W P xs vs→Rvs W P ys (slicePick vs.toArray lo hi st).toList)
 (hops:∀l,subscripted slice false (.ref l) (.ref s.heap.objs.size)=operate (ops++[.ref l]) (getItem (.ref l) (.ref s.heap.objs.size))∨subscripted slice false (.ref l) (.ref s.heap.objs.size)=operate (.ref l::ops) (getItem (.ref l) (.ref s.heap.objs.size))):
 wpAny (model W.prog W.w) A (subscriptTail value slice v (.ref s.heap.objs.size)) (Ok W fr P η s (mk m ys σ).2 (mk m ys σ).1) E {s with heap:=s.heap.push (slcO a b c),toks:=tk}:=by
 obtain⟨l,vs,e,rfl,hp,r⟩:=hx.lst_inv
 have hl:s.heap.get? l=some (lob vs e):=Dw I _ _ hp
 have hl1:(s.heap.push (slcO a b c)).IsList l vs.toArray:=⟨_,Heap.get?_push_of_some _ hl,rfl,e,rfl⟩
 have hsz:=Ay hs
 have hlen:=r.length
 have I1:=Bg hW.sys I (Ah s.heap (slcO a b c))
 have st1:Stp fr P s.heap P (s.heap.push (slcO a b c)):=Ba (Ah _ _)
 have main:wpAny (model W.prog W.w) A (getItem (.ref l) (.ref s.heap.objs.size)) (Ok W fr P η s (mk m ys σ).2 (mk m ys σ).1) E {s with heap:=s.heap.push (slcO a b c),toks:=tk}:=by
  refine wpAny_getItem_list_slice (s:={s with heap:=s.heap.push (slcO a b c),toks:=tk}) hl1 (Heap.IsSliceOf.new ..) pa pb pc h0 ?_ (by simp only[List.size_toArray,←hlen];exact Bt hs)
  refine Ok.from (tk:=tk) st1 (Lz (n:=0) hW.sys I1 S (hy vs r) m (Ah _ _) (Ak _) ?_)
  have:lob (slicePick vs.toArray lo hi st).toList 0={cls:=.type "list",data:=.seq (slicePick vs.toArray lo hi st)}:=by simp[lob]
  rw[this]
  exact Heap.get?_push_size _ rfl
 rcases hops l with q|q
 ·exact tail_any hl1.typeIs slot_list_getitem.lookup main q
 ·exact tail_any hl1.typeIs slot_list_getitem.lookup main q
theorem Bl{c:Bool}{α:Type}{a:α}{b:α}(e:(if c=true then some a else none)=some b):c=true∧a=b:=by
 split at e
 ·rename_i h;exact⟨h,Option.some.inj e⟩
 ·cases e
theorem N9(hW:WOK W)(I:Inv W P fr s.heap)(S:SR W P η σ){value slice:Expr}{xs ys:List PV}{v a b c:Value}{tk:Nat}{ops:Value→Value→List Value}(hx:Rw (W:=W) P (.tup xs) v)
 (hops:∀o i,subscripted slice false o i=operate (ops o i) (getItem o i))
 (hg:∀t vs,v=.ref t→Rvs W P xs vs→IsTup (s.heap.push (slcO a b c)) t vs.toArray→vs.length=xs.length→
  ∃us,Rvs W P ys us∧∀(Q:Value→Shared→Prop),Q (.ref (s.heap.push (slcO a b c)).objs.size) {s with heap:=(s.heap.push (slcO a b c)).push {cls:=.type "tuple",data:=.seq us.toArray},toks:=tk}→
   wpAny (model W.prog W.w) A (getItem (.ref t) (.ref s.heap.objs.size)) Q E {s with heap:=s.heap.push (slcO a b c),toks:=tk}):
 wpAny (model W.prog W.w) A (subscriptTail value slice v (.ref s.heap.objs.size)) (Ok W fr P η s σ (.v (.tup ys))) E {s with heap:=s.heap.push (slcO a b c),toks:=tk}:=by
 refine(let GG:=_;(?_:GG))
 obtain⟨t,o,vs,rfl,hp,tt,r⟩:=hx.tup_inv
 have ht:=Ry (Heap.get?_push_of_some (slcO a b c) (I.gh _ _ hp)) tt
 have I1:=Bg hW.sys I (Ah s.heap (slcO a b c))
 have st1:Stp fr P s.heap P (s.heap.push (slcO a b c)):=Ba (Ah _ _)
 have hT:Shared.TypeIs {s with heap:=s.heap.push (slcO a b c),toks:=tk} (.ref t) "tuple":=let⟨o,h1,h2,_⟩:=ht;⟨o,h1,h2⟩
 obtain⟨us,ru,hgo⟩:=hg t vs rfl r ht r.length.symm
 refine tail_any hT slot_tuple_getitem.lookup ?_ (hops _ _)
 exact hgo _ (Ok.from (tk:=tk) st1 (Pe hW.sys I1 S ru ⟨0,rfl⟩ (Ah _ _) (Ak _) (Heap.get?_push_size _ rfl)))
set_option tactic.hygienic true in
theorem Z2(hW:WOK W)(I:Inv W P fr s.heap)(S:SR W P η σ){value slice:Expr}{x:PV}{v:Value}{j:Int}{u:Tok}{m:Bool}{z:Val}{tk:Nat}(hx:Rw (W:=W) P x v)(e:slcP none (some j) x m σ=some (z,σ'))
 (hops:∀o i,subscripted slice false o i=operate [i,o] (getItem o i)):
 wpAny (model W.prog W.w) A (subscriptTail value slice v (.ref s.heap.objs.size)) (Ok W fr P η s σ' z) E {s with heap:=s.heap.push (slcO .none (.int j u) .none),toks:=tk}:=by
 cases x<;>first|exact nfo e|skip
 ·rename_i xs
  obtain⟨hc,e⟩:=Bl e
  simp only[Bool.and_eq_true,decide_eq_true_eq]at hc
  have h0:=hc.1.1
  have h1:=hc.1.2
  have h2:=Ay hc.2
  cases e
  obtain⟨k,rfl⟩:=Int.eq_ofNat_of_zero_le h0
  refine N9 hW I S (ops:=fun o i=>[i,o]) hx hops fun t vs J r ht hl=>⟨vs.take k,r.take k,fun Q hQ=>?_⟩
  refine T6 ht (Heap.IsSliceOf.new ..) (b:=k) (u:=u) (by simp only[List.size_toArray,hl];simpa using h1) ?_ (by simp only[List.size_toArray,hl];rw[sizeLine_eq];omega)
  exact hQ
 ·rename_i xs
  obtain⟨hc,e⟩:=Bl e
  simp only[Bool.and_eq_true,decide_eq_true_eq]at hc
  have h0:=hc.1
  obtain⟨e1,e2⟩:=mkE e
  rw[e1,e2]
  refine J4 (ops:=[.ref s.heap.objs.size]) hW I S hx hc.2 (lo:=none) (hi:=some j) (st:=none) .none (.int _ _) .none (by simp) (fun vs r=>?_) fun l=>.inl (hops _ _)
  obtain⟨k,rfl⟩:=Int.eq_ofNat_of_zero_le h0
  rw[slicePick_upto']
  exact r.take k
set_option tactic.hygienic true in
theorem Tb(hW:WOK W)(I:Inv W P fr s.heap)(S:SR W P η σ){value slice:Expr}{x:PV}{v:Value}{j:Int}{u:Tok}{m:Bool}{z:Val}{tk:Nat}(hx:Rw (W:=W) P x v)(e:slcP (some j) none x m σ=some (z,σ'))
 (hops:∀o i,subscripted slice false o i=operate [i,o] (getItem o i)):
 wpAny (model W.prog W.w) A (subscriptTail value slice v (.ref s.heap.objs.size)) (Ok W fr P η s σ' z) E {s with heap:=s.heap.push (slcO (.int j u) .none .none),toks:=tk}:=by
 cases x<;>first|exact nfo e|skip
 ·rename_i xs
  obtain⟨hc,e⟩:=Bl e
  simp only[Bool.and_eq_true,decide_eq_true_eq]at hc
  have h0:=hc.1.1
  have h1:=hc.1.2
  have h2:=Ay hc.2
  cases e
  obtain⟨k,rfl⟩:=Int.eq_ofNat_of_zero_le (show 0≤j by omega)
  refine N9 hW I S (ops:=fun o i=>[i,o]) hx hops fun t vs J r ht hl=>⟨vs.drop k,r.drop k,fun Q hQ=>?_⟩
  refine getItem_tuple_from ht (Heap.IsSliceOf.new ..) (a:=k) (u:=u) (by omega) (by simp only[List.size_toArray,hl];simpa using h1) ?_ (by simp only[List.size_toArray,hl];rw[sizeLine_eq];omega)
  exact hQ
 ·rename_i xs
  obtain⟨hc,e⟩:=Bl e
  simp only[Bool.and_eq_true,decide_eq_true_eq]at hc
  have h0:=hc.1
  obtain⟨e1,e2⟩:=mkE e
  rw[e1,e2]
  refine J4 (ops:=[.ref s.heap.objs.size]) hW I S hx hc.2 (lo:=some j) (hi:=none) (st:=none) (.int _ _) .none .none (by simp) (fun vs r=>?_) fun l=>.inl (hops _ _)
  obtain⟨k,rfl⟩:=Int.eq_ofNat_of_zero_le h0
  rw[slicePick_from']
  exact r.drop k
theorem Wz(hW:WOK W)(I:Inv W P fr s.heap)(S:SR W P η σ){value slice:Expr}{xs:List PV}{v:Value}{u:Tok}{m:Bool}{tk:Nat}(hx:Rw (W:=W) P (.lst xs) v)(hs:small xs.length=true)
 (hops:∀o i,subscripted slice false o i=operate [o,i] (getItem o i)):
 wpAny (model W.prog W.w) A (subscriptTail value slice v (.ref s.heap.objs.size)) (Ok W fr P η s (mk m xs.reverse σ).2 (mk m xs.reverse σ).1) E {s with heap:=s.heap.push (slcO .none .none (.int (-1) u)),toks:=tk}:=by
 refine J4 (ops:=[.ref s.heap.objs.size]) hW I S hx hs (lo:=none) (hi:=none) (st:=some (-1)) .none .none (.int _ _) (by simp) (fun vs r=>?_) fun l=>.inr (hops _ _)
 rw[Mt]
 exact r.reverse
theorem Wt{i:Int}{t:Cs}(e:He (.int i)=some t):t=B3 i∧i.natAbs.log2<1920:=by
 obtain⟨hb,e⟩:=Bl e
 simp only[Bool.and_eq_true,decide_eq_true_eq]at hb
 have h1:=hb.1.1
 have h2:=hb.1.2
 refine⟨e.symm,?_⟩
 by_cases h0:i.natAbs=0
 ·rw[h0];decide
 ·exact(Nat.log2_lt h0).mpr (Nat.lt_of_lt_of_le (show i.natAbs<2^20 by omega) (Nat.pow_le_pow_right (by decide) (by decide)))
theorem Ip{x:PV}{t:Cs}(e:He x=some t):t.length≤4096:=by
 induction x using PV.casesOn<;>first|exact nfo e|skip
 ·obtain⟨hb,e⟩:=Bl e
  simp only[Bool.and_eq_true]at hb
  rw[←e];exact Ay hb.2
 ·obtain⟨hb,e⟩:=Bl e
  rw[←e];exact Ay hb
set_option tactic.hygienic true in
theorem Xr(I:Inv W P fr s.heap)(S:SR W P η σ){x:PV}{v:Value}{t:Cs}(r:Rv W P x v)(e:He x=some t):
 wpAny (model W.prog W.w) A (formatField v Str.empty) (Ok W fr P η s σ (.v (.str t))) E s:=by
 have ht:=Ip e
 cases r<;>first|exact nfo e|skip
 ·obtain⟨rfl,h1⟩:=Wt e
  rename_i i tk
  refine wpAny_formatField_int h1 ?_
  rw[Kp]
  exact Ok.here I S (.v (.str _ _)) _
 ·obtain⟨_,e⟩:=Bl e
  subst e
  exact wpAny_formatField_str (Ok.here0 I S (.v (.str _ _))) (Ok.here I S (.v (.str _ _)) _) (by rw[Da,sizeLine_eq];omega)
end
end Mine.Internal
namespace Mine.Internal
open PySem PySem.W PyProof.Rows PySem.SeqAt PySem.MeetsSeq PySem.Calls
variable {W:Wd} {P P':GM} {fr:List Env} {h h':Heap} {η η':List Addr} {σ σ':Sto}
set_option genCtorIdx false in
structure Cx where
 names:List (Str×NameKind)
 tbl:List (Str×Nat×Nat)
set_option genInjectivity false in
set_option genCtorIdx false in
structure Gl where
 gt:List (Str×Value)
 attrs:List Cs
 nf:Nat
 fns:Nat→Addr
 cls:Nat→Addr
 meths:List (Cs×Nat)
 pol:Pol
noncomputable def OVR(W:Wd)(P:GM)(η:List Addr):Option Val→Option Value→Prop
 |none,_=>True
 |some x,some v=>RV (W:=W) P η x v
 |some _,none=>False
theorem OVR.mono(l:GLe P P')(p:Pre η η'){o:Option Val}{u:Option Value}(r:OVR W P η o u):OVR W P' η' o u:=by
 induction o using Option.casesOn with
 |none=>trivial
 |some x=>induction u using Option.casesOn with
  |none=>exact r
  |some v=>exact RV.mono l p r
inductive LocL(W:Wd)(env:Env)(P:GM)(η:List Addr)(h:Heap)(x:Str)(o:Option Val):Prop
 |mk (hk:env.kindOf x=some .local) (m:Str→Option Value) (hn:h.Ns env.locals m) (ho:OVR W P η o (m x)):LocL W env P η h x o
inductive LocC(W:Wd)(env:Env)(P:GM)(η:List Addr)(h:Heap)(x:Str)(o:Option Val):Prop
 |mk (hk:env.kindOf x=some .cell∨env.kindOf x=some .free) (c:Addr) (u:Option Value) (hc:env.cells.lookup x=some c) (hi:h.IsCell c u) (hp:P c=none) (hb:W.base.get? c=none) (ho:OVR W P η o u):LocC W env P η h x o
noncomputable abbrev LocR(W:Wd)(env:Env)(P:GM)(η:List Addr)(h:Heap)(x:Str)(o:Option Val):Prop:=LocL W env P η h x o∨LocC W env P η h x o
structure EnvR(W:Wd)(cx:Cx)(env:Env)(P:GM)(η:List Addr)(h:Heap)(ρ:PEnv):Prop where
 kind:env.scope.kind=.function
 glob:env.globals=mainGlobals
 blt:env.builtins=builtinsNs
 names:env.scope.names=cx.names
 ns:∃m,h.Ns env.locals m
 locP:P env.locals=none
 locB:W.base.get? env.locals=none
 inj:∀x y c,env.cells.lookup x=some c→env.cells.lookup y=some c→x=y
 vars:∀x d i,cx.tbl.lookup x=some (d,i)→LocR W env P η h x (getV ρ d i)
theorem Qm{c:Addr}{u:Option Value}(x:h.IsCell c u)(e:∀o,h.get? c=some o→∃sl,h'.get? c=some {o with slots:=sl}):h'.IsCell c u:=by
 obtain⟨o,ho,hd⟩:=x
 obtain⟨sl,e1⟩:=e o ho
 exact⟨_,e1,hd⟩
theorem Stp.slots(x:Stp fr P h P' h'){a:Addr}(hp:P a=none):∀o,h.get? a=some o→∃sl,h'.get? a=some {o with slots:=sl}:=fun o e=>
 let⟨sl,e1,_⟩:=x.keep a o e hp;⟨sl,e1⟩
theorem LocR.step{env:Env}{x:Str}{o:Option Val}(r:LocR W env P η h x o)(hl:P env.locals=none)(st:Stp fr P h P' h')(p:Pre η η'):LocR W env P' η' h' x o:=by
 rcases r with⟨hk,m,hn,ho⟩|⟨hk,c,u,hc,hi,hp,hb,ho⟩
 ·exact .inl ⟨hk,m,Ij hn (st.slots hl),ho.mono st.le p⟩
 ·obtain⟨oc,e,_⟩:=id hi
  exact .inr ⟨hk,c,u,hc,Qm hi (st.slots hp),st.none' hp e,hb,ho.mono st.le p⟩
theorem EnvR.step{cx:Cx}{env:Env}{ρ:PEnv}(R:EnvR W cx env P η h ρ)(st:Stp fr P h P' h')(p:Pre η η'):EnvR W cx env P' η' h' ρ where
 kind:=R.kind
 glob:=R.glob
 blt:=R.blt
 names:=R.names
 ns:=let⟨m,hn⟩:=R.ns;⟨m,Ij hn (st.slots R.locP)⟩
 locP:=let⟨_,o,_,_,ho,_⟩:=R.ns;st.none' R.locP ho
 locB:=R.locB
 inj:=R.inj
 vars:=fun x d i e=>(R.vars x d i e).step R.locP st p
inductive OkG(W:Wd)(fr:List Env)(P:GM)(η:List Addr)(s:Shared)(Rel:GM→List Addr→Prop)(σ':Sto)(s':Shared):Prop
 |mk (h':Heap) (tk:Tok) (P':GM) (η':List Addr) (e:s'={s with heap:=h',toks:=tk}) (st:Stp fr P s.heap P' h') (p:Pre η η') (I:Inv W P' fr h') (S:SR W P' η' σ') (r:Rel P' η'):OkG W fr P η s Rel σ' s'
theorem Ok.toG{s s':Shared}{x:Val}{v:Value}(o:Ok W fr P η s σ' x v s'):OkG W fr P η s (fun P' η'=>RV (W:=W) P' η' x v) σ' s':=by
 obtain⟨h',tk,e,P',η',a,b,c,d,f⟩:=o
 exact⟨h',tk,P',η',e,a,b,c,d,f⟩
noncomputable def cMsg:Cs:=[109,101,115,115,97,103,101]
inductive TbO(P:GM)(h0 h:Heap)(vs:Array Value)(a d:Addr):Prop
 |mk (T:Addr) (oT:Obj) (ts:Array Value) (f:Value) (y0:vs[1]?=some (.ref T)) (y1:h0.get? T=none) (y2:P T=none) (y3:T≠a) (y4:T≠d) (y5:h.get? T=some oT) (y6:oT.data=.fields ts) (y7:ts[3]?=some f):TbO P h0 h vs a d
inductive Fly(W:Wd)(P:GM)(h0 h:Heap)(m:PV)(a:Addr):Prop
 |mk (oe:Obj) (vs:Array Value) (d:Addr) (md:Str→Option Value) (v:Value) (x1:h0.get? a=none) (x2:P a=none) (x3:h.get? a=some oe) (x4:oe.cls=.ref (W.cls 2)) (x5:oe.dict=some d) (x6:oe.data=.fields vs)
  (x7:h0.get? d=none) (x8:P d=none) (x9:d≠a) (x10:h.Ns1 d md) (x11:md (sv cMsg)=some v) (x12:Rv W P m v) (x13:vs[1]?=some .none∨TbO P h0 h vs a d):Fly W P h0 h m a
inductive XQ(W:Wd)(fr:List Env)(P:GM)(s:Shared)(m:PV)(e:Value)(s':Shared):Prop
 |mk (h':Heap) (tk:Tok) (P':GM) (a:Addr) (e1:s'={s with heap:=h',toks:=tk}) (e2:e=.ref a) (st:Stp fr P s.heap P' h') (I:Inv W P' fr h') (f:Fly W P' s.heap h' m a):XQ W fr P s m e s'
inductive QQ{β α:Type}(W:Wd)(fr:List Env)(P:GM)(η:List Addr)(s:Shared)(Rel:β→α→GM→List Addr→Prop)(r:Res (β×Sto))(v:α)(s':Shared):Prop
 |mk (b:β) (σ':Sto) (e:r=.ok (b,σ')) (o:OkG W fr P η s (Rel b v) σ' s'):QQ W fr P η s Rel r v s'
inductive EE{β:Type}(W:Wd)(fr:List Env)(P:GM)(s:Shared)(r:Res β)(e:Value)(s':Shared):Prop
 |mk (m:PV) (e1:r=.exc m) (o:XQ W fr P s m e s'):EE W fr P s r e s'
structure Cur(W:Wd)(fr:List Env)(cx:Cx)(env:Env)(ρ:PEnv)(P:GM)(η:List Addr)(σ:Sto)(h:Heap):Prop where
 I:Inv W P fr h
 S:SR W P η σ
 R:EnvR W cx env P η h ρ
theorem Cur.step{cx:Cx}{env:Env}{ρ:PEnv}(C:Cur W fr cx env ρ P η σ h)(st:Stp fr P h P' h')(p:Pre η η')(I:Inv W P' fr h')(S:SR W P' η' σ'):Cur W fr cx env ρ P' η' σ' h':=⟨I,S,C.R.step st p⟩
theorem Inv.live(I:Inv W P fr h){a:Addr}(hp:P a≠none):h.get? a≠none:=by
 intro q
 exact hp (Ad I q)
theorem Stp.live(st:Stp fr P h P' h')(I':Inv W P' fr h'){a:Addr}(e:h'.get? a=none):h.get? a=none:=by
 cases q:h.get? a with
 |none=>rfl
 |some o=>
  exfalso
  by_cases hp:P a=none
  ·obtain⟨sl,e1,_⟩:=st.keep a o q hp
   rw[e]at e1;cases e1
  ·exact I'.live (st.dom a hp) e
theorem Fly.back{h0 h1:Heap}{m:PV}{a:Addr}(f:Fly W P h1 h m a)(k:∀b,h1.get? b=none→h0.get? b=none):Fly W P h0 h m a:=by
 obtain⟨oe,vs,d,md,v,x1,x2,x3,x4,x5,x6,x7,x8,x9,x10,x11,x12,x13⟩:=f
 refine⟨oe,vs,d,md,v,k _ x1,x2,x3,x4,x5,x6,k _ x7,x8,x9,x10,x11,x12,?_⟩
 rcases x13 with q|⟨T,oT,ts,f,y0,y1,y2,y3,y4,y5,y6,y7⟩
 ·exact .inl q
 ·exact .inr ⟨T,oT,ts,f,y0,k _ y1,y2,y3,y4,y5,y6,y7⟩
theorem OkG.trans{s:Shared}{h1:Heap}{tk1:Nat}{s':Shared}{P1:GM}{η1:List Addr}{Rel:GM→List Addr→Prop}(st:Stp fr P s.heap P1 h1)(p:Pre η η1)
 (o:OkG W fr P1 η1 {s with heap:=h1,toks:=tk1} Rel σ' s'):OkG W fr P η s Rel σ' s':=by
 obtain⟨h',tk,P',η',e,a,b,c,d,f⟩:=o
 exact⟨h',tk,P',η',e,st.trans a,p.trans b,c,d,f⟩
theorem XQ.trans{s:Shared}{h1:Heap}{tk1:Nat}{e:Value}{s':Shared}{P1:GM}{m:PV}(st:Stp fr P s.heap P1 h1)(I1:Inv W P1 fr h1)
 (o:XQ W fr P1 {s with heap:=h1,toks:=tk1} m e s'):XQ W fr P s m e s':=by
 obtain⟨h',tk,P',a,e1,e2,b,c,f⟩:=o
 exact⟨h',tk,P',a,e1,e2,st.trans b,c,f.back fun b e=>st.live I1 e⟩
inductive BindOk{α β:Type}(r:Res α)(f:α→Res β)(b:β):Prop
 |mk (a:α) (e1:r=.ok a) (e2:f a=.ok b):BindOk r f b
theorem Res.bind_ok{α β:Type}{r:Res α}{f:α→Res β}{b:β}(e:r.bind f=.ok b):BindOk r f b:=by
 induction r using Res.casesOn with
 |ok a=>exact⟨a,rfl,e⟩
 |exc m=>cases e
 |stk=>cases e
theorem XQ.toks{s s':Shared}{t:Tok}{m:PV}{e:Value}(x:XQ W fr P {s with toks:=t} m e s'):XQ W fr P s m e s':=by
 obtain⟨h',tk,P',a,e1,e2,b,c,f⟩:=x;exact⟨h',tk,P',a,e1,e2,b,c,f⟩
theorem EE.toks{β:Type}{s s':Shared}{t:Tok}{r:Res β}{e:Value}(x:EE W fr P {s with toks:=t} r e s'):EE W fr P s r e s':=by
 obtain⟨m,e1,o⟩:=x;exact⟨m,e1,o.toks⟩
theorem OkG.toks{s s':Shared}{t:Tok}{Rel:GM→List Addr→Prop}(x:OkG W fr P η {s with toks:=t} Rel σ' s'):OkG W fr P η s Rel σ' s':=by
 obtain⟨h',tk,P',η',e,a,b,c,d,f⟩:=x;exact⟨h',tk,P',η',e,a,b,c,d,f⟩
theorem D3{α β:Type}{r:Res α}{f:α→Res β}(e:r.bind f≠.stk):r≠.stk:=by
 rintro rfl;exact e rfl
section
variable {A:Around} {s:Shared} {α α' β γ:Type} {cx:Cx} {env:Env} {ρ:PEnv}
theorem A5e{t:Sem α}{r:Res (β×Sto)}{b:β}{Rel:β→α→GM→List Addr→Prop}{M:Model}{Q:α→Shared→Prop}{E:Value→Shared→Prop}(h:wpAny M A t (QQ W fr P η s Rel r) (EE W fr P s r) s)(e:r=.ok (b,σ'))
 (k:∀u h' tk P' η',Stp fr P s.heap P' h'→Pre η η'→Inv W P' fr h'→SR W P' η' σ'→Rel b u P' η'→Q u {s with heap:=h',toks:=tk}):wpAny M A t Q E s:=by
 subst e
 refine wpAny_mono h (fun u s' q=>?_) (fun J J q=>?_)
 ·obtain⟨b',σ2,e,h',tk,P',η',rfl,st,p,I,S,rel⟩:=q
  cases e
  exact k u h' tk P' η' st p I S rel
 ·obtain⟨m,e,_⟩:=q
  cases e
noncomputable abbrev RelV(W:Wd):Val→Value→GM→List Addr→Prop:=fun x v P η=>RV (W:=W) P η x v
noncomputable abbrev Aax(W:Wd):List Val→List Value→GM→List Addr→Prop:=fun x v P η=>RVs (W:=W) P η x v
noncomputable abbrev RelB:Bool→Bool→GM→List Addr→Prop:=fun x v J J=>v=x
end
noncomputable def Bu(x:Str):Bool:= !(x==("__debug__":Str))&& !(x==("__classdict__":Str))
section
variable {A:Around} {s:Shared} {cx:Cx} {env:Env} {ρ:PEnv} {E:Value→Shared→Prop} {M:Model}
theorem Fp(R:EnvR W cx env P η s.heap ρ){x:Str}{d i:Nat}{z:Val}{Q:Value→Shared→Prop}(hl:cx.tbl.lookup x=some (d,i))(hn:Bu x=true)(hz:getV ρ d i=some z)
 (h:∀v,RV (W:=W) P η z v→Q v s):wpAny M A (loadName env x) Q E s:=by
 simp only[Bu,Bool.and_eq_true,Bool.not_eq_true']at hn
 have r:=R.vars x d i hl
 rw[hz]at r
 refine(let GG:=_;(?_:GG))
 rcases r with⟨hk,m,hns,ho⟩|⟨hk,c,u,hc,hi,_,_,ho⟩
 ·cases q:m x with
  |none=>rw[q]at ho;exact ho.elim
  |some v=>rw[q]at ho;exact wpAny_loadName_local R.kind hk hns q (h v ho)
 ·induction u using Option.casesOn with
  |none=>exact ho.elim
  |some v=>rcases hk with hk|hk
           ·exact wpAny_loadName_cell R.kind hk hc hi (h v ho)
           ·exact wpAny_loadName_free R.kind hk hc hi (h v ho) hn.2
theorem A48(C:Cur W fr cx env ρ P η σ s.heap){x:Str}{pos:Pos}{d i:Nat}{z:Val}(hl:cx.tbl.lookup x=some (d,i))(hn:Bu x=true)(hz:getV ρ d i=some z):
 wpAny M A (eval (.Name x pos) env) (fun v s'=>OkG W fr P η s (RelV W (norm σ z) v) σ s') E s:=by
 have hn':=hn
 simp only[Bu,Bool.and_eq_true,Bool.not_eq_true']at hn'
 exact wpAny_Name (Fp C.R hl hn hz fun v r=>(Ok.here0 C.I C.S (Pd C.S r)).toG) hn'.1
structure GlOK(W:Wd)(G:Gl):Prop where
 ok:WOK W
 glob:∃mg mb,W.base.Ns mainGlobals mg∧W.base.Ns builtinsNs mb∧∀x v,G.gt.lookup x=some v→(mg x=some v∨(mg x=none∧mb x=some v))∧(x==("__debug__":Str))=false
 attr:∀a∈G.attrs,E0 W.K (W.cls 0) (sv a)=true∧E0 W.K (W.cls 1) (sv a)=true∧F9 W.K (W.cls 0) (sv a)=true∧F9 W.K (W.cls 1) (sv a)=true
 fnsE:W.fns=G.fns
 clsE:W.cls=G.cls
 meth:∀a f,(a,f)∈G.meths→plainGet W.K (W.cls 1) (sv a)=true∧findIn W.K (.ref (W.cls 1)) (sv a)=some (some (.ref (W.fns f)))∧typeIn W.K (.ref (W.fns f))=some (.type "function")∧f<G.nf
 make:∀c,c<2→makesIn W.K (W.cls c)=true∧findIn W.K (.ref (W.cls c)) "__init__"=some (some (.ref (W.fns (G.pol.initOf c))))∧typeIn W.K (.ref (W.fns (G.pol.initOf c)))=some (.type "function")∧G.pol.initOf c<G.nf
 keepF:∀f,f<G.nf→keepIn W.K (.ref (W.fns f))=true
 keepC:∀c,c<3→keepIn W.K (.ref (W.cls c))=true
theorem G9{G:Gl}(hG:GlOK W G)(C:Cur W fr cx env ρ P η σ s.heap){x:Str}{pos:Pos}{v:Value}{Q:Value→Shared→Prop}(hk:cx.names.lookup x=some .globalImplicit)(hv:G.gt.lookup x=some v)(h:Q v s):
 wpAny M A (eval (.Name x pos) env) Q E s:=by
 refine(let GG:=_;(?_:GG))
 obtain⟨mg,mb,g1,g2,g3⟩:=hG.glob
 obtain⟨q,hd⟩:=g3 x v hv
 have kk:∀b o,W.base.get? b=some o→s.heap.get? b=some o:=fun b o e=>(C.I.base b o e).1
 have h1:s.heap.Ns env.globals mg:=by rw[C.R.glob];exact g1.keeps kk
 have h2:s.heap.Ns env.builtins mb:=by rw[C.R.blt];exact g2.keeps kk
 refine Name_function_global C.R.kind (by show env.scope.names.lookup x=_;rw[C.R.names];exact hk) ?_ hd
 rcases q with q|⟨q1,q2⟩
 ·exact loadGlobal_global h1 q h
 ·exact loadGlobal_builtin h1 q1 h2 q2 h
end
end Mine.Internal
namespace Mine.Internal
open PySem PySem.W PyProof.Rows PySem.SeqAt PySem.MeetsSeq PySem.Calls
theorem band{a b:Bool}(h:(a&&b)=true):a=true∧b=true:=by cases a;exact nf h;exact⟨rfl,h⟩
theorem beqE{α:Type}[BEq α][LawfulBEq α]{a b:α}(h:(a==b)=true):a=b:=eq_of_beq h
theorem Ae{a b:Bool}{R:Prop}(c:a=true→b=true→R)(h:(a&&b)=true):R:=c (band h).1 (band h).2
theorem Ez{a0 a1 a2:Bool}{R:Prop}(k:a0=true→a1=true→a2=true→R)(h:(a0&&(a1&&a2))=true):R:=Ae (fun h0=>Ae fun h1 h2=>k h0 h1 h2) h
theorem Od{a0 a1 a2 a3:Bool}{R:Prop}(k:a0=true→a1=true→a2=true→a3=true→R)(h:(a0&&(a1&&(a2&&a3)))=true):R:=Ae (fun h0=>Ae fun h1=>Ae fun h2 h3=>k h0 h1 h2 h3) h
theorem A2k{a0 a1 a2 a3 a4:Bool}{R:Prop}(k:a0=true→a1=true→a2=true→a3=true→a4=true→R)(h:(a0&&(a1&&(a2&&(a3&&a4))))=true):R:=Ae (fun h0=>Ae fun h1=>Ae fun h2=>Ae fun h3 h4=>k h0 h1 h2 h3 h4) h
theorem Wi{a0 a1 a2 a3 a4 a5:Bool}{R:Prop}(k:a0=true→a1=true→a2=true→a3=true→a4=true→a5=true→R)(h:(a0&&(a1&&(a2&&(a3&&(a4&&a5)))))=true):R:=Ae (fun h0=>Ae fun h1=>Ae fun h2=>Ae fun h3=>Ae fun h4 h5=>k h0 h1 h2 h3 h4 h5) h
theorem Aau{a0 a1 a2 a3 a4 a5 a6:Bool}{R:Prop}(k:a0=true→a1=true→a2=true→a3=true→a4=true→a5=true→a6=true→R)(h:(a0&&(a1&&(a2&&(a3&&(a4&&(a5&&a6))))))=true):R:=Ae (fun h0=>Ae fun h1=>Ae fun h2=>Ae fun h3=>Ae fun h4=>Ae fun h5 h6=>k h0 h1 h2 h3 h4 h5 h6) h
theorem Aat{a0 a1 a2 a3 a4 a5 a6 a7 a8:Bool}{R:Prop}(k:a0=true→a1=true→a2=true→a3=true→a4=true→a5=true→a6=true→a7=true→a8=true→R)(h:(a0&&(a1&&(a2&&(a3&&(a4&&(a5&&(a6&&(a7&&a8))))))))=true):R:=Ae (fun h0=>Ae fun h1=>Ae fun h2=>Ae fun h3=>Ae fun h4=>Ae fun h5=>Ae fun h6=>Ae fun h7 h8=>k h0 h1 h2 h3 h4 h5 h6 h7 h8) h
theorem A98{a0 a1 a2 a3 a4 a5 a6 a7 a8 a9 a10 a11 a12 a13 a14:Bool}{R:Prop}(k:a0=true→a1=true→a2=true→a3=true→a4=true→a5=true→a6=true→a7=true→a8=true→a9=true→a10=true→a11=true→a12=true→a13=true→a14=true→R)(h:(a0&&(a1&&(a2&&(a3&&(a4&&(a5&&(a6&&(a7&&(a8&&(a9&&(a10&&(a11&&(a12&&(a13&&a14))))))))))))))=true):R:=Ae (fun h0=>Ae fun h1=>Ae fun h2=>Ae fun h3=>Ae fun h4=>Ae fun h5=>Ae fun h6=>Ae fun h7=>Ae fun h8=>Ae fun h9=>Ae fun h10=>Ae fun h11=>Ae fun h12=>Ae fun h13 h14=>k h0 h1 h2 h3 h4 h5 h6 h7 h8 h9 h10 h11 h12 h13 h14) h
theorem A97{a0 a1 a2 a3 a4 a5 a6 a7 a8 a9 a10 a11 a12 a13 a14 a15 a16 a17:Bool}{R:Prop}(k:a0=true→a1=true→a2=true→a3=true→a4=true→a5=true→a6=true→a7=true→a8=true→a9=true→a10=true→a11=true→a12=true→a13=true→a14=true→a15=true→a16=true→a17=true→R)(h:(a0&&(a1&&(a2&&(a3&&(a4&&(a5&&(a6&&(a7&&(a8&&(a9&&(a10&&(a11&&(a12&&(a13&&(a14&&(a15&&(a16&&a17)))))))))))))))))=true):R:=Ae (fun h0=>Ae fun h1=>Ae fun h2=>Ae fun h3=>Ae fun h4=>Ae fun h5=>Ae fun h6=>Ae fun h7=>Ae fun h8=>Ae fun h9=>Ae fun h10=>Ae fun h11=>Ae fun h12=>Ae fun h13=>Ae fun h14=>Ae fun h15=>Ae fun h16 h17=>k h0 h1 h2 h3 h4 h5 h6 h7 h8 h9 h10 h11 h12 h13 h14 h15 h16 h17) h
@[elab_as_elim] theorem Js{α:Type}[BEq α][LawfulBEq α]{a b:α}{R:α→Prop}(h:(a==b)=true)(c:R b):R a:=eq_of_beq h▸c
theorem decE{p:Prop}[Decidable p](h:decide p=true):p:=of_decide_eq_true h
theorem onD{p:Prop}[Decidable p]{f:p→Bool}{R:Prop}(h:(if q:p then f q else false)=true)(c:(q:p)→f q=true→R):R:=by
 by_cases q:p
 ·rw[dif_pos q]at h;exact c q h
 ·rw[dif_neg q]at h;exact nf h
noncomputable def H6(e:Expr)(k:Const→Bool):Bool:=if h:e.ctorIdx=19 then Expr.Constant.elim (motive_1:=fun J=>Bool) e h fun y0 J J=>k y0 else false
@[elab_as_elim] theorem Eo{e:Expr}{k:Const→Bool}{R:Expr→Prop}(h:H6 e k=true)(c:∀c a b,k c=true→R (.Constant c a b)):R e:=onD h fun q h=>Expr.Constant.elim (motive_1:=fun e=>∀q:e.ctorIdx=19,Expr.Constant.elim (motive_1:=fun J=>Bool) e q (fun y0 J J=>k y0)=true→R e) e q (fun y0 y1 y2 J h=>c y0 y1 y2 h) q h
noncomputable def Pq(e:Expr)(k:List Expr→Bool):Bool:=if h:e.ctorIdx=25 then Expr.Tuple.elim (motive_1:=fun J=>Bool) e h fun y0 J J=>k y0 else false
@[elab_as_elim] theorem Kj{e:Expr}{k:List Expr→Bool}{R:Expr→Prop}(h:Pq e k=true)(c:∀xs a b,k xs=true→R (.Tuple xs a b)):R e:=onD h fun q h=>Expr.Tuple.elim (motive_1:=fun e=>∀q:e.ctorIdx=25,Expr.Tuple.elim (motive_1:=fun J=>Bool) e q (fun y0 J J=>k y0)=true→R e) e q (fun y0 y1 y2 J h=>c y0 y1 y2 h) q h
noncomputable def A1o(e:Expr)(k:List Expr→Bool):Bool:=if h:e.ctorIdx=24 then Expr.List.elim (motive_1:=fun J=>Bool) e h fun y0 J=>k y0 else false
@[elab_as_elim] theorem Tp{e:Expr}{k:List Expr→Bool}{R:Expr→Prop}(h:A1o e k=true)(c:∀xs a,k xs=true→R (.List xs a)):R e:=onD h fun q h=>Expr.List.elim (motive_1:=fun e=>∀q:e.ctorIdx=24,Expr.List.elim (motive_1:=fun J=>Bool) e q (fun y0 J=>k y0)=true→R e) e q (fun y0 y1 J h=>c y0 y1 h) q h
noncomputable def A69(e:Expr)(k:List (Option Expr)→List Expr→Bool):Bool:=if h:e.ctorIdx=6 then Expr.Dict.elim (motive_1:=fun J=>Bool) e h fun y0 y1 J=>k y0 y1 else false
@[elab_as_elim] theorem Zz{e:Expr}{k:List (Option Expr)→List Expr→Bool}{R:Expr→Prop}(h:A69 e k=true)(c:∀ks vs a,k ks vs=true→R (.Dict ks vs a)):R e:=onD h fun q h=>Expr.Dict.elim (motive_1:=fun e=>∀q:e.ctorIdx=6,Expr.Dict.elim (motive_1:=fun J=>Bool) e q (fun y0 y1 J=>k y0 y1)=true→R e) e q (fun y0 y1 y2 J h=>c y0 y1 y2 h) q h
noncomputable def W9(e:Expr)(k:BoolOp→List Expr→Bool):Bool:=if h:e.ctorIdx=0 then Expr.BoolOp.elim (motive_1:=fun J=>Bool) e h fun y0 y1 J=>k y0 y1 else false
@[elab_as_elim] theorem Rn{e:Expr}{k:BoolOp→List Expr→Bool}{R:Expr→Prop}(h:W9 e k=true)(c:∀o vs a,k o vs=true→R (.BoolOp o vs a)):R e:=onD h fun q h=>Expr.BoolOp.elim (motive_1:=fun e=>∀q:e.ctorIdx=0,Expr.BoolOp.elim (motive_1:=fun J=>Bool) e q (fun y0 y1 J=>k y0 y1)=true→R e) e q (fun y0 y1 y2 J h=>c y0 y1 y2 h) q h
noncomputable def Po(e:Expr)(k:UnaryOp→Expr→Bool):Bool:=if h:e.ctorIdx=3 then Expr.UnaryOp.elim (motive_1:=fun J=>Bool) e h fun y0 y1 J=>k y0 y1 else false
@[elab_as_elim] theorem Hq{e:Expr}{k:UnaryOp→Expr→Bool}{R:Expr→Prop}(h:Po e k=true)(c:∀o x a,k o x=true→R (.UnaryOp o x a)):R e:=onD h fun q h=>Expr.UnaryOp.elim (motive_1:=fun e=>∀q:e.ctorIdx=3,Expr.UnaryOp.elim (motive_1:=fun J=>Bool) e q (fun y0 y1 J=>k y0 y1)=true→R e) e q (fun y0 y1 y2 J h=>c y0 y1 y2 h) q h
noncomputable def eBin(e:Expr)(k:Expr→Operator→Expr→Bool):Bool:=if h:e.ctorIdx=2 then Expr.BinOp.elim (motive_1:=fun J=>Bool) e h fun y0 y1 y2 J=>k y0 y1 y2 else false
@[elab_as_elim] theorem A5t{e:Expr}{k:Expr→Operator→Expr→Bool}{R:Expr→Prop}(h:eBin e k=true)(c:∀l o r a,k l o r=true→R (.BinOp l o r a)):R e:=onD h fun q h=>Expr.BinOp.elim (motive_1:=fun e=>∀q:e.ctorIdx=2,Expr.BinOp.elim (motive_1:=fun J=>Bool) e q (fun y0 y1 y2 J=>k y0 y1 y2)=true→R e) e q (fun y0 y1 y2 y3 J h=>c y0 y1 y2 y3 h) q h
noncomputable def A1p(e:Expr)(k:Expr→Expr→Expr→Bool):Bool:=if h:e.ctorIdx=5 then Expr.IfExp.elim (motive_1:=fun J=>Bool) e h fun y0 y1 y2 J=>k y0 y1 y2 else false
@[elab_as_elim] theorem Vw{e:Expr}{k:Expr→Expr→Expr→Bool}{R:Expr→Prop}(h:A1p e k=true)(c:∀t x y a,k t x y=true→R (.IfExp t x y a)):R e:=onD h fun q h=>Expr.IfExp.elim (motive_1:=fun e=>∀q:e.ctorIdx=5,Expr.IfExp.elim (motive_1:=fun J=>Bool) e q (fun y0 y1 y2 J=>k y0 y1 y2)=true→R e) e q (fun y0 y1 y2 y3 J h=>c y0 y1 y2 y3 h) q h
noncomputable def eCmp(e:Expr)(k:Expr→List CmpOp→List Expr→Bool):Bool:=if h:e.ctorIdx=15 then Expr.Compare.elim (motive_1:=fun J=>Bool) e h fun y0 y1 y2 J=>k y0 y1 y2 else false
@[elab_as_elim] theorem A5r{e:Expr}{k:Expr→List CmpOp→List Expr→Bool}{R:Expr→Prop}(h:eCmp e k=true)(c:∀l os rs a,k l os rs=true→R (.Compare l os rs a)):R e:=onD h fun q h=>Expr.Compare.elim (motive_1:=fun e=>∀q:e.ctorIdx=15,Expr.Compare.elim (motive_1:=fun J=>Bool) e q (fun y0 y1 y2 J=>k y0 y1 y2)=true→R e) e q (fun y0 y1 y2 y3 J h=>c y0 y1 y2 y3 h) q h
noncomputable def A6b(e:Expr)(k:Expr→List Expr→List Keyword→Pos→Bool):Bool:=if h:e.ctorIdx=16 then Expr.Call.elim (motive_1:=fun J=>Bool) e h fun y0 y1 y2 y3=>k y0 y1 y2 y3 else false
@[elab_as_elim] theorem H4{e:Expr}{k:Expr→List Expr→List Keyword→Pos→Bool}{R:Expr→Prop}(h:A6b e k=true)(c:∀f xs ks p,k f xs ks p=true→R (.Call f xs ks p)):R e:=onD h fun q h=>Expr.Call.elim (motive_1:=fun e=>∀q:e.ctorIdx=16,Expr.Call.elim (motive_1:=fun J=>Bool) e q (fun y0 y1 y2 y3=>k y0 y1 y2 y3)=true→R e) e q (fun y0 y1 y2 y3 J h=>c y0 y1 y2 y3 h) q h
noncomputable def O5(e:Expr)(k:Expr→Str→Pos→Bool):Bool:=if h:e.ctorIdx=20 then Expr.Attribute.elim (motive_1:=fun J=>Bool) e h fun y0 y1 y2=>k y0 y1 y2 else false
@[elab_as_elim] theorem Iz{e:Expr}{k:Expr→Str→Pos→Bool}{R:Expr→Prop}(h:O5 e k=true)(c:∀o n p,k o n p=true→R (.Attribute o n p)):R e:=onD h fun q h=>Expr.Attribute.elim (motive_1:=fun e=>∀q:e.ctorIdx=20,Expr.Attribute.elim (motive_1:=fun J=>Bool) e q (fun y0 y1 y2=>k y0 y1 y2)=true→R e) e q (fun y0 y1 y2 J h=>c y0 y1 y2 h) q h
noncomputable def eSub(e:Expr)(k:Expr→Expr→Bool):Bool:=if h:e.ctorIdx=21 then Expr.Subscript.elim (motive_1:=fun J=>Bool) e h fun y0 y1 J=>k y0 y1 else false
@[elab_as_elim] theorem Hr{e:Expr}{k:Expr→Expr→Bool}{R:Expr→Prop}(h:eSub e k=true)(c:∀o i a,k o i=true→R (.Subscript o i a)):R e:=onD h fun q h=>Expr.Subscript.elim (motive_1:=fun e=>∀q:e.ctorIdx=21,Expr.Subscript.elim (motive_1:=fun J=>Bool) e q (fun y0 y1 J=>k y0 y1)=true→R e) e q (fun y0 y1 y2 J h=>c y0 y1 y2 h) q h
noncomputable def Pr(e:Expr)(k:Option Expr→Option Expr→Option Expr→Bool):Bool:=if h:e.ctorIdx=26 then Expr.Slice.elim (motive_1:=fun J=>Bool) e h fun y0 y1 y2 J=>k y0 y1 y2 else false
@[elab_as_elim] theorem P8{e:Expr}{k:Option Expr→Option Expr→Option Expr→Bool}{R:Expr→Prop}(h:Pr e k=true)(c:∀x y z a,k x y z=true→R (.Slice x y z a)):R e:=onD h fun q h=>Expr.Slice.elim (motive_1:=fun e=>∀q:e.ctorIdx=26,Expr.Slice.elim (motive_1:=fun J=>Bool) e q (fun y0 y1 y2 J=>k y0 y1 y2)=true→R e) e q (fun y0 y1 y2 y3 J h=>c y0 y1 y2 y3 h) q h
noncomputable def A6a(e:Expr)(k:Expr→List Comprehension→Scope→Bool):Bool:=if h:e.ctorIdx=8 then Expr.ListComp.elim (motive_1:=fun J=>Bool) e h fun y0 y1 y2 J=>k y0 y1 y2 else false
@[elab_as_elim] theorem A00{e:Expr}{k:Expr→List Comprehension→Scope→Bool}{R:Expr→Prop}(h:A6a e k=true)(c:∀x gs sc a,k x gs sc=true→R (.ListComp x gs sc a)):R e:=onD h fun q h=>Expr.ListComp.elim (motive_1:=fun e=>∀q:e.ctorIdx=8,Expr.ListComp.elim (motive_1:=fun J=>Bool) e q (fun y0 y1 y2 J=>k y0 y1 y2)=true→R e) e q (fun y0 y1 y2 y3 J h=>c y0 y1 y2 y3 h) q h
noncomputable def A67(e:Expr)(k:List Expr→Bool):Bool:=if h:e.ctorIdx=18 then Expr.JoinedStr.elim (motive_1:=fun J=>Bool) e h fun y0 J=>k y0 else false
@[elab_as_elim] theorem Zw{e:Expr}{k:List Expr→Bool}{R:Expr→Prop}(h:A67 e k=true)(c:∀vs a,k vs=true→R (.JoinedStr vs a)):R e:=onD h fun q h=>Expr.JoinedStr.elim (motive_1:=fun e=>∀q:e.ctorIdx=18,Expr.JoinedStr.elim (motive_1:=fun J=>Bool) e q (fun y0 J=>k y0)=true→R e) e q (fun y0 y1 J h=>c y0 y1 h) q h
noncomputable def eFV(e:Expr)(k:Expr→Int→Option Expr→Bool):Bool:=if h:e.ctorIdx=17 then Expr.FormattedValue.elim (motive_1:=fun J=>Bool) e h fun y0 y1 y2 J=>k y0 y1 y2 else false
@[elab_as_elim] theorem onFV{e:Expr}{k:Expr→Int→Option Expr→Bool}{R:Expr→Prop}(h:eFV e k=true)(c:∀v c f a,k v c f=true→R (.FormattedValue v c f a)):R e:=onD h fun q h=>Expr.FormattedValue.elim (motive_1:=fun e=>∀q:e.ctorIdx=17,Expr.FormattedValue.elim (motive_1:=fun J=>Bool) e q (fun y0 y1 y2 J=>k y0 y1 y2)=true→R e) e q (fun y0 y1 y2 y3 J h=>c y0 y1 y2 y3 h) q h
noncomputable def Id(e:Expr)(k:Str→Bool):Bool:=if h:e.ctorIdx=23 then Expr.Name.elim (motive_1:=fun J=>Bool) e h fun y0 J=>k y0 else false
@[elab_as_elim] theorem Dy{e:Expr}{k:Str→Bool}{R:Expr→Prop}(h:Id e k=true)(c:∀x p,k x=true→R (.Name x p)):R e:=onD h fun q h=>Expr.Name.elim (motive_1:=fun e=>∀q:e.ctorIdx=23,Expr.Name.elim (motive_1:=fun J=>Bool) e q (fun y0 J=>k y0)=true→R e) e q (fun y0 y1 J h=>c y0 y1 h) q h
noncomputable def eNo{α:Type}(o:Option α)(k:Bool):Bool:=match o with|none=>k|some _=>false
@[elab_as_elim] theorem onNo{α:Type}{o:Option α}{k:Bool}{R:Option α→Prop}(h:eNo o k=true)(c:k=true→R none):R o:=by
 cases o;exact c h;exact nf h
noncomputable def eSo{α:Type}(o:Option α)(k:α→Bool):Bool:=match o with|some a=>k a|none=>false
@[elab_as_elim] theorem onSo{α:Type}{o:Option α}{k:α→Bool}{R:Option α→Prop}(h:eSo o k=true)(c:∀a,k a=true→R (some a)):R o:=by
 cases o;exact nf h;exact c _ h
noncomputable def eNil{α:Type}(o:List α)(k:Bool):Bool:=match o with|[]=>k|_::_=>false
@[elab_as_elim] theorem Jr{α:Type}{o:List α}{k:Bool}{R:List α→Prop}(h:eNil o k=true)(c:k=true→R []):R o:=by
 cases o;exact c h;exact nf h
noncomputable def Du{α:Type}(o:List α)(k:α→List α→Bool):Bool:=match o with|a::r=>k a r|[]=>false
@[elab_as_elim] theorem Fm{α:Type}{o:List α}{k:α→List α→Bool}{R:List α→Prop}(h:Du o k=true)(c:∀a r,k a r=true→R (a::r)):R o:=by
 cases o;exact nf h;exact c _ _ h
noncomputable def eOne{α:Type}(o:List α)(k:α→Bool):Bool:=Du o fun a r=>eNil r (k a)
@[elab_as_elim] theorem E7{α:Type}{o:List α}{k:α→Bool}{R:List α→Prop}(h:eOne o k=true)(c:∀a,k a=true→R [a]):R o:=
 Fm h fun a J h=>Jr (R:=fun r=>R (a::r)) h (c a)
noncomputable def Ps(e:Expr)(k:Expr→List Expr→Pos→Bool):Bool:=A6b e fun f xs ks p=>eNil ks (k f xs p)
@[elab_as_elim] theorem Hu{e:Expr}{k:Expr→List Expr→Pos→Bool}{R:Expr→Prop}(h:Ps e k=true)(c:∀f xs p,k f xs p=true→R (.Call f xs [] p)):R e:=
 H4 h fun f xs J p h=>Jr (R:=fun ks=>R (.Call f xs ks p)) h (c f xs p)
noncomputable def Sg(e:Expr)(k:Expr→Str→Pos→List Expr→Pos→Bool):Bool:=Ps e fun f xs p=>O5 f fun o n ap=>k o n ap xs p
@[elab_as_elim] theorem P9{e:Expr}{k:Expr→Str→Pos→List Expr→Pos→Bool}{R:Expr→Prop}(h:Sg e k=true)(c:∀o n ap xs p,k o n ap xs p=true→R (.Call (.Attribute o n ap) xs [] p)):R e:=
 Hu h fun J xs p h=>Iz (R:=fun f=>R (.Call f xs [] p)) h fun o n ap=>c o n ap xs p
noncomputable def isNot:UnaryOp→Bool|.Not=>true|_=>false
noncomputable def A0u:UnaryOp→Bool|.USub=>true|_=>false
@[elab_as_elim] theorem A5n{o:UnaryOp}{R:UnaryOp→Prop}(h:isNot o=true)(c:R .Not):R o:=by cases o<;>first|exact c|exact nf h
@[elab_as_elim] theorem Zv{o:UnaryOp}{R:UnaryOp→Prop}(h:A0u o=true)(c:R .USub):R o:=by cases o<;>first|exact c|exact nf h
noncomputable def eStr(c:Const)(k:Str→Bool):Bool:=match c with|.str s=>k s|_=>false
@[elab_as_elim] theorem Rl{c:Const}{k:Str→Bool}{R:Const→Prop}(h:eStr c k=true)(f:∀s,k s=true→R (.str s)):R c:=by induction c using PySem.Const.casesOn<;>first|exact f _ h|exact nf h
noncomputable def eInt(c:Const)(k:Int→Bool):Bool:=match c with|.int s=>k s|_=>false
@[elab_as_elim] theorem A5o{c:Const}{k:Int→Bool}{R:Const→Prop}(h:eInt c k=true)(f:∀s,k s=true→R (.int s)):R c:=by induction c using PySem.Const.casesOn<;>first|exact f _ h|exact nf h
noncomputable def eBol(c:Const)(k:Bool→Bool):Bool:=match c with|.bool s=>k s|_=>false
@[elab_as_elim] theorem A9w{c:Const}{k:Bool→Bool}{R:Const→Prop}(h:eBol c k=true)(f:∀s,k s=true→R (.bool s)):R c:=by induction c using PySem.Const.casesOn<;>first|exact f _ h|exact nf h
noncomputable def eNon(c:Const):Bool:=match c with|.none=>true|_=>false
@[elab_as_elim] theorem A9s{c:Const}{R:Const→Prop}(h:eNon c=true)(f:R .none):R c:=by induction c using PySem.Const.casesOn<;>first|exact f|exact nf h
noncomputable def Ly:Expr→Bool
 |.Call _ xs _ _=> !xs.isEmpty
 |_=>true
noncomputable def Kk(e:Expr):Bool:= !(e.ctorIdx==22)
noncomputable def J0(e:Expr):Bool:= !(e.ctorIdx==7)
noncomputable def Lw(e:Expr):Bool:= !(e.ctorIdx==26)
noncomputable def ckC(x:PV)(c:Const):Bool:=match x with
 |.none=>eNon c
 |.bool b=>eBol c fun d=>b==d
 |.int i=>eInt c fun j=>i==j
 |.str t=>eStr c fun s=>s==sv t
 |_=>false
noncomputable def Aaa(k:Cs)(o:Option Expr):Bool:=eSo o fun e=>H6 e fun c=>eStr c fun s=>s==sv k
noncomputable def Pu:List Cs→List (Option Expr)→Bool
 |[],xs=>xs.isEmpty
 |k::ks,xs=>Du xs fun o r=>Aaa k o&&Pu ks r
noncomputable def A0s(cx:Cx)(d i:Nat)(e:Expr):Bool:=Id e fun x=>cx.tbl.lookup x==some (d,i)&&Bu x
noncomputable def isGl(G:Gl)(cx:Cx)(v:Value)(e:Expr):Bool:=Id e fun x=>cx.names.lookup x==some .globalImplicit&&G.gt.lookup x==some v
noncomputable def Ml(op:BoolOp):Bool:=match op with|.And=>true|.Or=>false
noncomputable def D4(cx:Cx)(sc:Scope)(x:Str):Cx where
 names:=sc.names.map fun e=>if e.2==.free&&cx.names.lookup e.1==some .cell then(e.1,.cell)else(e.1,e.2)
 tbl:=(x,0,0)::(cx.tbl.filter fun e=>sc.names.lookup e.1==some .free).map fun e=>(e.1,e.2.1+1,e.2.2)
noncomputable def Ou(cx:Cx)(sc:Scope)(x:Str):Bool:=
 sc.kind==.function&&Bu x&&(sc.names.lookup x==some .local||sc.names.lookup x==some .cell)&&
 sc.names.all (fun e=>(!(e.2==.cell)||e.1==x)&&sc.names.lookup e.1==some e.2&&
  (!(e.2==.free)||((cx.tbl.lookup e.1).isSome&&(cx.names.lookup e.1==some .cell||cx.names.lookup e.1==some .free))))
noncomputable def eGl(G:Gl)(cx:Cx)(v:Value)(e:Expr)(k:List Expr→Bool):Bool:=Ps e fun f xs J=>isGl G cx v f&&k xs
noncomputable def eGen(gs:List Comprehension)(k:Str→Expr→List Expr→Bool):Bool:=eOne gs fun g=>match g with|⟨t,it,ifs,n⟩=>n==0&&Id t fun x=>k x it ifs
@[elab_as_elim] theorem A5p{gs:List Comprehension}{k:Str→Expr→List Expr→Bool}{R:List Comprehension→Prop}(h:eGen gs k=true)(c:∀x p it ifs,k x it ifs=true→R [⟨.Name x p,it,ifs,0⟩]):R gs:=by
 refine E7 h fun g h=>?_
 obtain⟨t,it,ifs,n⟩:=g
 obtain⟨h1,h2⟩:=band h
 rw[beqE h1]
 exact Dy (R:=fun t=>R [⟨t,it,ifs,0⟩]) h2 fun x p h=>c x p it ifs h
noncomputable def eSd(e:Expr)(k:Expr→Str→Pos→Expr→Pos→Str→Pos→Expr→Pos→Bool):Bool:=
 Sg e fun o n2 ap2 xs p2=>eOne xs fun x=>Sg o fun o' n ap ys p=>Du ys fun k' zs=>eOne zs fun z=>A1o z fun l=>eNil l (k o' n ap k' p n2 ap2 x p2)
@[elab_as_elim] theorem onSd{e:Expr}{k:Expr→Str→Pos→Expr→Pos→Str→Pos→Expr→Pos→Bool}{R:Expr→Prop}(h:eSd e k=true)
 (c:∀o' n ap k' lp p n2 ap2 x p2,k o' n ap k' p n2 ap2 x p2=true→R (.Call (.Attribute (.Call (.Attribute o' n ap) [k',.List [] lp] [] p) n2 ap2) [x] [] p2)):R e:=
 P9 h fun J n2 ap2 J p2 h=>E7 (R:=fun xs=>R (.Call (.Attribute _ n2 ap2) xs [] p2)) h fun x h=>
  P9 (R:=fun o=>R (.Call (.Attribute o n2 ap2) [x] [] p2)) h fun o' n ap J p h=>
  Fm (R:=fun ys=>R (.Call (.Attribute (.Call (.Attribute o' n ap) ys [] p) n2 ap2) [x] [] p2)) h fun k' J h=>
  E7 (R:=fun zs=>R (.Call (.Attribute (.Call (.Attribute o' n ap) (k'::zs) [] p) n2 ap2) [x] [] p2)) h fun J h=>
  Tp (R:=fun z=>R (.Call (.Attribute (.Call (.Attribute o' n ap) [k',z] [] p) n2 ap2) [x] [] p2)) h fun J lp h=>
  Jr (R:=fun l=>R (.Call (.Attribute (.Call (.Attribute o' n ap) [k',.List l lp] [] p) n2 ap2) [x] [] p2)) h fun h=>c o' n ap k' lp p n2 ap2 x p2 h
noncomputable def eCst(e:CE)(k:PV→Bool):Bool:=CE.casesOn (motive_1:=fun J=>Bool) e k (fun J J=>false) (fun J=>false) (fun J=>false) (fun J=>false) (fun J J=>false) (fun J J=>false) (fun J=>false) (fun J=>false) (fun J J J=>false) (fun J J J=>false) (fun J J J=>false) (fun J J=>false) (fun J J=>false) (fun J J=>false) (fun J J J=>false) (fun J J J J=>false) (fun J J J J=>false) (fun J J=>false) (fun J J=>false) (fun J J=>false) (fun J J=>false) (fun J=>false) (fun J J J J=>false) (fun J=>false) false
@[elab_as_elim] theorem A9v{e:CE}{k:PV→Bool}{R:CE→Prop}(h:eCst e k=true)(c:∀y,k y=true→R (.cst y)):R e:=CE.casesOn (motive_1:=fun e=>eCst e k=true→R e) e c (fun J J=>nf) (fun J=>nf) (fun J=>nf) (fun J=>nf) (fun J J=>nf) (fun J J=>nf) (fun J=>nf) (fun J=>nf) (fun J J J=>nf) (fun J J J=>nf) (fun J J J=>nf) (fun J J=>nf) (fun J J=>nf) (fun J J=>nf) (fun J J J=>nf) (fun J J J J=>nf) (fun J J J J=>nf) (fun J J=>nf) (fun J J=>nf) (fun J J=>nf) (fun J J=>nf) (fun J=>nf) (fun J J J J=>nf) (fun J=>nf) nf h
noncomputable def ePS(e:PV)(k:Cs→Bool):Bool:=(pStr e fun s=>some (k s))==some true
@[elab_as_elim] theorem onPS{e:PV}{k:Cs→Bool}{R:PV→Prop}(h:ePS e k=true)(c:∀y,k y=true→R (.str y)):R e:=Fk (beqE h) fun s h=>c s (Option.some.inj h)
noncomputable def Aag(e:CE)(x:Expr):Bool:=eCst e fun y=>ePS y fun t=>H6 x fun c=>eStr c fun s=>s==sv t
mutual
noncomputable def ckE(G:Gl)(cx:Cx):CE→Expr→Bool
 |.cst x,e=>H6 e fun c=>ckC x c
 |.var d i,e=>A0s cx d i e
 |.glb v,e=>isGl G cx v e
 |.tupE es,e=>Pq e fun xs=>ckEs G cx es xs&&decide (xs.length≤30)
 |.lstE es,e=>A1o e fun xs=>ckEs G cx es xs&&decide (xs.length≤30)
 |.dctE ks es,e=>A69 e fun keys vals=>Pu ks keys&&(ckEs G cx es vals&&(ks.length==vals.length&&decide (ks.length≤15)))
 |.boolE k es,e=>W9 e fun op vs=>k==Ml op&&(ckEs G cx es vs&& !vs.isEmpty)
 |.notE a,e=>Po e fun o x=>isNot o&&ckE G cx a x
 |.negE a,e=>Po e fun o x=>A0u o&&ckE G cx a x
 |.bin op a b,e=>eBin e fun l o r=>o==bop op&&(ckE G cx a l&&ckE G cx b r)
 |.ite c a b,e=>A1p e fun t x y=>ckE G cx c t&&(ckE G cx a x&&ckE G cx b y)
 |.cmp op a b,e=>eCmp e fun l os rs=>eOne os fun o=>eOne rs fun r=>o==cop op&&(J0 r&&(ckE G cx a l&&ckE G cx b r))
 |.callF f es,e=>eGl G cx (.ref (G.fns f)) e fun args=>decide (f<G.nf)&&ckEs G cx es args
 |.callC c es,e=>eGl G cx (.ref (G.cls c)) e fun args=>decide (c<2)&&ckEs G cx es args
 |.callB b es,e=>eGl G cx (bidV b) e fun args=>ckEs G cx es args
 |.meth k o es,e=>Sg e fun o' n ap args p=>n==midN k&&(Ly o'&&(ap.endLine==p.line&&(decide (args.length<30)&&(ckE G cx o o'&&ckEs G cx es args))))
 |.methF f nm o es,e=>Sg e fun o' n ap args p=>n==sv nm&&(G.meths.contains (nm,f)&&(Ly o'&&(ap.endLine==p.line&&(decide (args.length<30)&&(ckE G cx o o'&&ckEs G cx es args)))))
 |.sdApp o k d i,e=>eSd e fun o' n ap k' p n2 ap2 x p2=>
  n==Str.ofString "setdefault"&&(n2==midN .append&&(Ly o'&&(ap.endLine==p.line&&(ap2.endLine==p2.line&&(Kk k'&&(ckE G cx o o'&&(ckE G cx k k'&&A0s cx d i x)))))))
 |.attr o a,e=>O5 e fun o' n J=>n==sv a&&(G.attrs.contains a&&(Ly o'&&ckE G cx o o'))
 |.sub o i,e=>eSub e fun o' i'=>Lw i'&&(ckE G cx o o'&&ckE G cx i i')
 |.slcTo o i,e=>eSub e fun o' s=>Pr s fun a b c=>eNo a (eSo b fun i'=>eNo c (ckE G cx o o'&&ckE G cx i i'))
 |.slcFrom o i,e=>eSub e fun o' s=>Pr s fun a b c=>eSo a fun i'=>eNo b (eNo c (ckE G cx o o'&&ckE G cx i i'))
 |.slcRev o,e=>eSub e fun o' s=>Pr s fun a b c=>eNo a (eNo b (eSo c fun u=>Po u fun q y=>A0u q&&(H6 y (fun k=>eInt k fun j=>j==1)&&ckE G cx o o')))
 |.comp elt it ifs nv,e=>A6a e fun elt' gs sc=>eGen gs fun x it' ifs'=>nv==0&&(J0 it'&&(Ou cx sc x&&(ckE G cx it it'&&(ckE G (D4 cx sc x) elt elt'&&ckEs G (D4 cx sc x) ifs ifs'))))
 |.fstr es,e=>A67 e fun vs=>ckT G cx es vs&&(!vs.isEmpty&&decide (vs.length≤30))
 |.dead,e=>Kk e
noncomputable def ckEs(G:Gl)(cx:Cx):CEs→List Expr→Bool
 |.nil,xs=>xs.isEmpty
 |.cons e r,xs=>Du xs fun x xs=>ckE G cx e x&&ckEs G cx r xs
noncomputable def ckT(G:Gl)(cx:Cx):CEs→List Expr→Bool
 |.nil,xs=>xs.isEmpty
 |.cons e r,xs=>Du xs fun x xs=>(eFV x (fun v c f=>eNo f (c==(-1)&&ckE G cx e v))||Aag e x)&&ckT G cx r xs
end
theorem A20{G:Gl}{cx:Cx}{ce:CE}{e:Expr}(h:ckE G cx ce e=true):Kk e=true:=by
 induction e using PySem.Expr.casesOn<;>first|rfl|skip
 induction ce using CE.casesOn<;>first|exact nf h|exact h
theorem Nf{x:Expr}{xs:List Expr}{env:Env}(hs:Kk x=true):starEach (x::xs) env=(false,eval x env)::starEach xs env:=by
 induction x using PySem.Expr.casesOn<;>first|rfl|exact nf hs
theorem Gc{x:Expr}{env:Env}(hs:J0 x=true)(v:Value):foldedSetIterable x env v=pure v:=by
 induction x using PySem.Expr.casesOn<;>first|rfl|exact nf hs
theorem B7{G:Gl}{cx:Cx}{env:Env}:∀{es:CEs} {xs:List Expr},ckEs G cx es xs=true→starEach xs env=xs.map fun x=>(false,eval x env)
 |.nil,[],_=>rfl
 |.nil,_::_,h=>nf h
 |.cons e r,[],h=>nf h
 |.cons e r,x::xs,h=>by
  obtain⟨h1,h2⟩:=band (a:=ckE G cx e x) (b:=ckEs G cx r xs) h
  exact(Nf (A20 h1)).trans (congrArg (List.cons _) (B7 (env:=env) h2))
theorem Ev(p:Pos)(env:Env)(xs:List Expr):backTo p (xs.map fun x=>(false,eval x env))=xs.map fun x=>(false,eval x env):=by
 simp[backTo]
end Mine.Internal
namespace Mine.Internal
open PySem PySem.W PyProof.Rows PySem.SeqAt PySem.MeetsSeq PySem.Calls
variable {W:Wd} {P P':GM} {fr:List Env} {h h':Heap} {η η':List Addr} {σ σ':Sto}
structure AOKw(A:Around)(fr:List Env)(n:Nat):Prop where
 handled:A.handled=none
 frames:A.frames=some fr
 depth:A.depth+2*n+7≤900
 units:A.units+20*n+390≤9000
theorem AOK.w{A:Around}{n:Nat}(a:AOK A fr n):AOKw A fr n:=⟨a.handled,a.frames,Nat.le_of_succ_le a.depth,Nat.le_trans (Nat.add_le_add_left (by decide:390≤400) _) a.units⟩
theorem AOK.un{A B:Around}{n:Nat}(a:AOK A fr n)(u1:B.handled=A.handled)(u2:B.frames=A.frames)(u3:B.depth≤A.depth+1)(u4:B.units≤A.units+5):AOKw B fr n:=
 ⟨u1.trans a.handled,u2.trans a.frames,Nat.le_trans (Nat.add_le_add_right (Nat.add_le_add_right u3 _) 7) (Nat.add_right_comm A.depth 1 (2*n)▸a.depth),Nat.le_trans (Nat.add_le_add_right (Nat.add_le_add_right u4 _) 390) (Nat.add_right_comm A.units 5 (20*n)▸Nat.le_trans (Nat.add_le_add_left (by decide:395≤400) (A.units+20*n)) a.units)⟩
theorem AOKw.deep{A B:Around}{n:Nat}{fr':List Env}(a:AOKw A fr (n+1))(u1:B.handled=none)(u2:B.frames=some fr')(u3:B.depth=A.depth+1)(u4:B.units=A.units+3):AOK B fr' n:=
 ⟨u1,u2,by rw[u3,Nat.add_right_comm A.depth 1 (2*n)];exact a.depth,by rw[u4,Nat.add_right_comm A.units 3 (20*n)];exact Nat.le_trans (Nat.add_le_add_left (by decide:403≤410) (A.units+20*n)) a.units⟩
noncomputable def Sm(W:Wd)(fr:List Env)(P:GM)(η:List Addr)(s:Shared)(res:Res (Val×Sto))(r:Result)(s':Shared):Prop:=
 match r with
 |.ok (.ret v)=>QQ W fr P η s (RelV W) res v s'
 |.ok _=>False
 |.error e=>EE W fr P s res e s'
noncomputable def K3(W:Wd)(G:Gl)(n:Nat)(Φ:Phi):Prop:=
 ∀(f:Nat) (vs:List Val) (us:List Value) (σ:Sto) (P:GM) (η:List Addr) (fr:List Env) (A:Around) (s:Shared),f<G.nf→AOKw A fr n→Inv W P fr s.heap→SR W P η σ→RVs (W:=W) P η vs us→
  Φ f vs σ≠.stk→codeAny (model W.prog W.w) A (.call (.ref (W.fns f)) ⟨us,[]⟩) (Sm W fr P η s (Φ f vs σ)) s
noncomputable def hid(P:GM):GM:=fun a=>match P a with
 |some (.mu _ _)=>none
 |g=>g
theorem U5{a:Addr}{o:Obj}(e:P a=some (.fz o)):hid P a=some (.fz o):=by simp[hid,e]
theorem A12{a:Addr}{k i x:Value}(e:P a=some (.vd k i x)):hid P a=some (.vd k i x):=by simp[hid,e]
theorem U4{a:Addr}{n:Nat}{o:Obj}(e:P a=some (.mu n o)):hid P a=none:=by simp[hid,e]
theorem Fq{a:Addr}(e:P a=none):hid P a=none:=by simp[hid,e]
theorem A03{a:Addr}{g:Gh}(e:hid P a=some g):P a=some g:=by
 unfold hid at e
 cases q:P a with
 |none=>rw[q]at e;cases e
 |some u=>rw[q]at e;cases u<;>first|exact e|cases e
theorem M4:GLe P (hid P):=⟨fun J J e=>U5 e,fun J J J J e=>A12 e⟩
theorem A4i(I:Inv W P fr h):Inv W (hid P) fr h where
 gh:=fun a g e=>I.gh a g (A03 e)
 base:=fun a o e=>by
  obtain⟨e1,q⟩:=I.base a o e
  exact⟨e1,q.elim (fun q=>.inl (Fq q)) fun q=>.inr (U5 q)⟩
 sys:=Fq I.sys
 frames:=fun env he=>let⟨L,m,a,b,c,d,e⟩:=I.frames env he;⟨L,m,a,b,c,d,Fq e⟩
noncomputable def unh(P P':GM)(sel:Addr→Option Nat):GM:=fun a=>match P a with
 |some (.mu n o)=>some (.mu n o)
 |_=>match P' a with
  |some (.mu _ o)=>(match sel a with|some k=>some (.mu k o)|none=>some (.fz o))
  |g=>g
theorem T5{sel:Addr→Option Nat}{a:Addr}{n:Nat}{o:Obj}(e:P a=some (.mu n o)):unh P P' sel a=some (.mu n o):=by simp[unh,e]
theorem Cj{sel:Addr→Option Nat}{a:Addr}(e:∀n o,P a≠some (.mu n o)):unh P P' sel a=(match P' a with|some (.mu _ o)=>(match sel a with|some k=>some (.mu k o)|none=>some (.fz o))|g=>g):=by
 unfold unh
 cases q:P a with
 |none=>rfl
 |some g=>cases g with
  |mu n o=>exact absurd q (e n o)
  |_=>rfl
theorem S8(I:Inv W P fr h){a:Addr}(hp:P a≠none):∀env∈fr,env.frame≠some a:=fun env he hf=>by
 obtain⟨L,m,hL,_,_,_,hq⟩:=I.frames env he
 rw[hf]at hL;cases hL;exact hp hq
theorem N8(I:Inv W P fr h)(st:Stp fr (hid P) h P' h'){a:Addr}{n:Nat}{o:Obj}(e:P a=some (.mu n o)):P' a=none∧h'.get? a=some o:=by
 have hg:h.get? a=some o:=I.gh a _ e
 have h1:P' a=none:=st.none' (U4 e) hg
 obtain⟨sl,e1,k⟩:=st.keep a o hg (U4 e)
 rw[k (S8 I (by rw[e];simp -iota))]at e1
 exact⟨h1,e1⟩
theorem Io(I:Inv W P fr h)(st:Stp fr (hid P) h P' h')(sel:Addr→Option Nat):GLe P' (unh P P' sel):=by
 have key:∀a g,P' a=some g→∀n o,P a≠some (.mu n o):=fun a g e n o q=>by rw[(N8 I st q).1]at e;cases e
 exact⟨fun a o e=>by rw[Cj (key a _ e),e],fun a k i x e=>by rw[Cj (key a _ e),e]⟩
theorem Kd(I:Inv W P fr h)(st:Stp fr (hid P) h P' h')(sel:Addr→Option Nat):Stp fr P h (unh P P' sel) h' where
 le:=(M4.trans st.le).trans (Io I st sel)
 new:=fun a hp hq=>by
  rw[Cj (by rw[hp];simp -iota)]at hq
  exact st.new a (Fq hp) (by intro q;rw[q]at hq;exact hq rfl)
 dom:=fun a hp=>by
  cases q:P a with
  |none=>exact absurd q hp
  |some g=>cases g with
   |mu n o=>rw[T5 q];simp -iota
   |fz o=>rw[Cj (by rw[q];simp -iota),st.le.fz a o (U5 q)];simp -iota
   |vd k i x=>rw[Cj (by rw[q];simp -iota),st.le.vd a k i x (A12 q)];simp -iota
 keep:=fun a o e hp=>st.keep a o e (Fq hp)
theorem Ke(I:Inv W P fr h)(st:Stp fr (hid P) h P' h')(I':Inv W P' fr h')(sel:Addr→Option Nat):Inv W (unh P P' sel) fr h' where
 gh:=fun a g e=>by
  by_cases q:∃n o,P a=some (.mu n o)
  ·obtain⟨n,o,q⟩:=q
   rw[T5 q]at e;cases e
   exact(N8 I st q).2
  ·rw[Cj (fun n o z=>q ⟨n,o,z⟩)]at e
   cases z:P' a with
   |none=>rw[z]at e;cases e
   |some u=>
    rw[z]at e
    have hu:=I'.gh a u z
    cases u with
    |mu n o=>
     dsimp only at e
     split at e<;>cases e<;>exact hu
    |fz o=>cases e;exact hu
    |vd=>cases e;exact hu
 base:=fun a o e=>by
  obtain⟨e1,q⟩:=I'.base a o e
  obtain⟨_,q0⟩:=I.base a o e
  have hn:∀n o',P a≠some (.mu n o'):=by rcases q0 with q0|q0<;>rw[q0]<;>simp
  rw[Cj hn]
  rcases q with q|q<;>rw[q]
  ·exact⟨e1,.inl rfl⟩
  ·exact⟨e1,.inr rfl⟩
 sys:=by rw[Cj (by rw[I.sys];simp),I'.sys]
 frames:=fun env he=>by
  obtain⟨L,m,a,b,c,d,e⟩:=I'.frames env he
  obtain⟨L',m',a',_,_,_,e'⟩:=I.frames env he
  rw[a]at a';cases a'
  exact⟨L,m,a,b,c,d,by rw[Cj (by rw[e'];simp),e]⟩
theorem Kn(sel:Addr→Option Nat):Hc (fun J=>True) P (unh P P' sel):=fun a n o J e=>T5 e
theorem Rvs.toVals{xs:List PV}{us:List Value}(r:Rvs W P xs us):RVs (W:=W) P η (xs.map .v) us:=V6 (ys:=[]) r
section
variable {A:Around} {E:Value→Shared→Prop} {s:Shared} {n:Nat} {G:Gl} {Φ:Phi} {pol:Pol}
set_option tactic.hygienic true in
theorem Y6(hW:WOK W)(hΦ:K3 W G n Φ)(hA:AOK A fr n){f:Nat}{m:Bool}{vs:List Val}{us:List Value}(hf:f<G.nf)(I:Inv W P fr s.heap)(S:SR W P η σ)(r:RVs (W:=W) P η vs us)
 (hne:A1 G.pol Φ f m vs σ≠.stk):wpAny (model W.prog W.w) A (call (.ref (W.fns f)) us) (QQ W fr P η s (RelV W) (A1 G.pol Φ f m vs σ)) (EE W fr P s (A1 G.pol Φ f m vs σ)) s:=by
 have hS:=hW.sys
 cases hsh:G.pol.shared f with
 |true=>
  have e0:A1 G.pol Φ f m vs σ=Φ f vs σ:=congrArg (fun b=>cond b _ _) hsh
  rw[e0]at hne⊢
  refine wpAny_call (codeAny_mono (hΦ f vs us σ P η fr A s hf hA.w I S r hne) fun q s' z=>?_)
  rcases q with e|(v|_|_|_)<;>first|exact z|exact z.elim
 |false=>
  have e0:A1 G.pol Φ f m vs σ=Fr (fun ps σ1=>(Φ f (ps.map .v) []).bind (Dv m σ1)) (frzs σ vs):=congrArg (fun b=>cond b _ _) hsh
  rw[e0]at hne⊢
  obtain⟨ps,σ1,q,hne⟩:=Ny hne
  rw[q]
  obtain⟨P1,s1,I1,S1,r1⟩:=Ga hS I S r q
  refine wpAny_call (codeAny_mono (hΦ f (ps.map .v) us [] (hid P1) [] fr A s hf hA.w (A4i I1) ⟨rfl,fun n a po e=>nomatch e⟩ (r1.mono M4).toVals (D3 hne)) fun rr s' z=>?_)
  cases rr with
  |error e=>
   obtain⟨mm,e1,h',tk,P',a,rfl,rfl,st,I',fl⟩:=z
   refine⟨mm,Res.bind_ex e1,h',tk,unh P1 P' fun J=>none,a,rfl,rfl,s1.trans (Kd I1 st _),Ke I1 st I' _,?_⟩
   obtain⟨oe,vs',d,md,v,x1,x2,x3,x4,x5,x6,x7,x8,x9,x10,x11,x12,x13⟩:=fl
   have un:∀b,s.heap.get? b=none→P' b=none→unh P1 P' (fun J=>none) b=none:=fun b e1 e2=>by rw[Cj (by rw[Ad I1 e1];simp -iota),e2]
   refine⟨oe,vs',d,md,v,x1,un a x1 x2,x3,x4,x5,x6,x7,un d x7 x8,x9,x10,x11,x12.mono (Io I1 st _),?_⟩
   rcases x13 with y|⟨T,oT,ts,f,y1,y2,y3,y4,y5,y6,y7,y8⟩
   ·exact .inl y
   ·exact .inr ⟨T,oT,ts,f,y1,y2,un T y2 y3,y4,y5,y6,y7,y8⟩
  |ok fl=>cases fl with
  |next=>exact z.elim
  |brk=>exact z.elim
  |cont=>exact z.elim
  |ret v=>
   obtain⟨x,σ2,e1,h',tk,P',η2,rfl,st,_,I',S',rx⟩:=z
   have e9:(Φ f (ps.map .v) []).bind (Dv m σ1)=Dv m σ1 (x,σ2):=Res.bind_at e1
   show QQ W fr P η s (RelV W) ((Φ f (ps.map .v) []).bind (Dv m σ1)) v _
   rw[e9]at hne⊢
   have done:∀{y:PV} {P2:GM},Stp fr (hid P1) s.heap P2 h'→Inv W P2 fr h'→Rv W P2 y v→∀{rs},rs=.ok (.v y,σ1)→QQ W fr P η s (RelV W) rs v {s with heap:=h',toks:=tk}:=fun st2 I2 ry J e=>
    ⟨_,_,e,h',tk,unh P1 _ fun J=>none,η,rfl,s1.trans (Kd I1 st2 _),.refl _,Ke I1 st2 I2 _,S1.mono ((M4.trans st2.le).trans (Io I1 st2 _)) (Kn _),.v (ry.mono (Io I1 st2 _))⟩
   cases x with
   |v y=>exact done st I' rx.inv rfl
   |h k=>
    obtain@⟨a,ha⟩:=rx.inv
    have e2:Dv m σ1 (.h k,σ2)=Mg m σ1 σ2 k (σ2[k]?):=rfl
    rw[e2]at hne⊢
    cases hl:σ2[k]? with
    |none=>rw[hl]at hne;exact absurd rfl hne
    |some po=>
     rw[hl]at hne
     have viaFrz:Mg m σ1 σ2 k (some po)=Ac ((frzO σ2 k po).map fun z=>(.v z.1,σ1))→QQ W fr P η s (RelV W) (Mg m σ1 σ2 k (some po)) (.ref a) {s with heap:=h',toks:=tk}:=fun e5=>by
      cases e3:frzO σ2 k po with
      |none=>rw[e5,e3]at hne;exact absurd rfl hne
      |some p=>
       obtain⟨P2,s2,I2,S2,ry⟩:=Dk (y:=p.1) (σ':=p.2) hS I' S' (.h ha) (show(σ2[k]?).bind (frzO σ2 k)=_ by rw[hl];exact e3)
       exact done (st.trans s2) I2 ry (e5.trans (by rw[e3];rfl))
     cases po with
     |list xs=>
      obtain⟨ws,e,hp,rr⟩:=Jj S' ha hl
      have hnew:s.heap.get? a=none:=by
       cases z:s.heap.get? a with
       |none=>rfl
       |some o=>
        exfalso
        by_cases hz:hid P1 a=none
        ·cases hp.symm.trans (st.none' hz z)
        ·cases u:hid P1 a with
         |none=>exact hz u
         |some g=>cases g with
          |fz o'=>cases hp.symm.trans (st.le.fz a o' u)
          |vd k' i' x'=>cases hp.symm.trans (st.le.vd a k' i' x' u)
          |mu n' o'=>cases(U4 (A03 u)).symm.trans u
      have hP1:P1 a=none:=Ad I1 hnew
      have hu:∀sel,unh P1 P' sel a=(match sel a with|some k=>some (.mu k (lob ws e))|none=>some (.fz (lob ws e))):=fun sel=>by rw[Cj (by rw[hP1];simp -iota),hp]
      cases m with
      |true=>
       have l:=Io I1 st (fun b=>if b=a then some η.length else none)
       refine⟨_,_,rfl,h',tk,unh P1 P' (fun b=>if b=a then some η.length else none),η++[a],rfl,s1.trans (Kd I1 st _),⟨_,rfl⟩,Ke I1 st I' _,S1.add ((M4.trans st.le).trans l) (Kn _) (.list ((hu _).trans (by rw[if_pos rfl])) (rr.mono l)),?_⟩
       show RV _ _ (.h σ1.length) _
       exact .h (by rw[←S1.len];simp -iota)
      |false=>
       have l:=Io I1 st (fun J=>none)
       exact⟨_,_,rfl,h',tk,unh P1 P' (fun J=>none),η,rfl,s1.trans (Kd I1 st _),.refl _,Ke I1 st I' _,S1.mono ((M4.trans st.le).trans l) (Kn _),.v (.lst (hu _) (rr.mono l))⟩
     |_=>exact viaFrz rfl
theorem Jl(C:Addr)(us:List Value):(A.under (.builtin "type.__call__" ⟨.ref C::us,[]⟩)).handled=A.handled∧(A.under (.builtin "type.__call__" ⟨.ref C::us,[]⟩)).frames=A.frames∧
 (A.under (.builtin "type.__call__" ⟨.ref C::us,[]⟩)).depth≤A.depth+1∧(A.under (.builtin "type.__call__" ⟨.ref C::us,[]⟩)).units≤A.units+5:=by
 refine⟨rfl,?_,?_,?_⟩
 ·rfl
 ·exact Nat.le_of_eq (depth_under_make A C us)
 ·exact Nat.le_trans (Nat.le_of_eq (show _=A.units+1 from rfl)) (Nat.add_le_add_left (by decide) _)
set_option tactic.hygienic true in
theorem A23(hG:GlOK W G)(hΦ:K3 W G n Φ)(hA:AOK A fr n){c:Nat}{m:Bool}{vs:List Val}{us:List Value}(hc:c<2)(I:Inv W P fr s.heap)(S:SR W P η σ)(r:RVs (W:=W) P η vs us)
 (hne:Cd G.pol Φ c m vs σ≠.stk):wpAny (model W.prog W.w) A (call (.ref (W.cls c)) us) (QQ W fr P η s (RelV W) (Cd G.pol Φ c m vs σ)) (EE W fr P s (Cd G.pol Φ c m vs σ)) s:=by
 have hW:=hG.ok
 have hS:=hW.sys
 obtain⟨hm1,hm2,hm3,hm4⟩:=hG.make c hc
 obtain⟨ps,σ1,q,hne⟩:=Ny hne
 have e0:Cd G.pol Φ c m vs σ=(Φ (G.pol.initOf c) (.h σ1.length::ps.map .v) (σ1++[.inst c []])).bind (Mf m σ1.length):=congrArg (Fr _) q
 rw[e0]
 refine(let GG:=_;(?_:GG))
 obtain⟨P1,s1,I1,S1,r1⟩:=Ga hS I S r q
 ·have X:=Inv.K hW I
  obtain⟨hp,g,d,t,os⟩:=s
  have hd0:hp.get? hp.objs.size=none:=Ak hp
  have hx0:hp.get? (hp.objs.size+1)=none:=Heap.get?_none_of_le (Nat.le_succ _)
  have hxd:hp.objs.size+1≠hp.objs.size:=Nat.succ_ne_self _
  have k1:=Ah hp emptyDict
  have k2:=Ah (hp.push emptyDict) (instObj (W.cls c) hp.objs.size)
  have hgd:((hp.push emptyDict).push (instObj (W.cls c) hp.objs.size)).get? hp.objs.size=some emptyDict:=k2 _ _ (Heap.get?_push_size _ rfl)
  have hgx:((hp.push emptyDict).push (instObj (W.cls c) hp.objs.size)).get? (hp.objs.size+1)=some (instObj (W.cls c) hp.objs.size):=by
   have:=Heap.get?_push_size (h:=hp.push emptyDict) (o:=instObj (W.cls c) hp.objs.size) rfl
   rwa[Heap.size_push]at this
  have sA:=C7 (fr:=fr) (g:=.mu η.length emptyDict) I1 k1 hd0
  have IA:=Cr (fr:=fr) (g:=.mu η.length emptyDict) hS I1 k1 hd0 (Heap.get?_push_size _ rfl)
  have hx1:(hp.push emptyDict).get? (hp.objs.size+1)=none:=by
   have:=Ak (hp.push emptyDict)
   rwa[Heap.size_push]at this
  have sB:=C7 (fr:=fr) (g:=.mu η.length (instObj (W.cls c) hp.objs.size)) IA k2 hx1
  have IB:=Cr (fr:=fr) (g:=.mu η.length (instObj (W.cls c) hp.objs.size)) hS IA k2 hx1 hgx
  have nd:=Ad I1 hd0
  have nx:=Ad IA hx1
  generalize hPB:upd (upd P1 hp.objs.size (.mu η.length emptyDict)) (hp.objs.size+1) (.mu η.length (instObj (W.cls c) hp.objs.size))=PB at sB IB
  have pd:PB hp.objs.size=some (.mu η.length emptyDict):=by rw[←hPB,B6 (Ne.symm hxd),Ap]
  have px:PB (hp.objs.size+1)=some (.mu η.length (instObj (W.cls c) hp.objs.size)):=by rw[←hPB,Ap]
  have lB:=sA.le.trans sB.le
  have SB:SR W PB (η++[hp.objs.size+1]) (σ1++[.inst c []]):=by
   refine S1.add lB (fun a k o J e=>?_) (.inst px ⟨rfl,rfl,fun J z=>by cases z⟩ (Ne.symm hxd) pd ⟨#[],0,fun J=>none,rfl,fun e he=>by simp -iota at he,by unfold UniqKeys;simp -iota,fun J=>rfl,fun J J=>rfl,fun k x z=>by cases z⟩)
   rw[←hPB]
   exact At nx a k o trivial (At nd a k o trivial e)
  have RB:RVs (W:=W) PB (η++[hp.objs.size+1]) (.h σ1.length::ps.map .v) (.ref (hp.objs.size+1)::us):=
   .cons (.h (by rw[←S1.len];simp -iota)) ((r1.mono lB).toVals)
  have hne':=D3 hne
  have sAll:=s1.trans (sA.trans sB)
  obtain⟨u1,u2,u3,u4⟩:=Jl (A:=A) (W.cls c) us
  have hAw:AOKw (A.under (.builtin "type.__call__" ⟨.ref (W.cls c)::us,[]⟩)) fr n:=
   hA.un u1 u2 u3 u4
  refine wpAny_call (make_core (makes_of X hm1) (looks_findIn X hm2) (fun self=>bind_fn X self hm3) (.inl rfl) (codeAny_mono (hΦ _ _ _ _ PB (η++[hp.objs.size+1]) fr _ ⟨(hp.push emptyDict).push (instObj (W.cls c) hp.objs.size),g,d,t,os⟩ hm4 hAw IB SB RB hne') fun rr s' z=>?_))
  induction rr using Except.casesOn with
  |error e=>
   obtain⟨mm,e1,o⟩:=z
   exact⟨mm,Res.bind_ex e1,XQ.trans (s:=⟨hp,g,d,t,os⟩) sAll IB o⟩
  |ok fl=>induction fl using PySem.Flow.casesOn with
   |next=>exact z.elim
   |brk=>exact z.elim
   |cont=>exact z.elim
   |ret v=>
    obtain⟨x,σ2,e1,h',tk,P',η2,rfl,st,p2,I',S',rx⟩:=z
    have e2:(Φ (G.pol.initOf c) (.h σ1.length::ps.map .v) (σ1++[.inst c []])).bind (Mf m σ1.length)=Mf m σ1.length (x,σ2):=Res.bind_at e1
    rw[e2]at hne
    have hη:η2[σ1.length]?=some (hp.objs.size+1):=p2.get (by rw[←S1.len];simp -iota)
    cases rx with
    |h=>exact absurd rfl hne
    |v ry=>
     cases ry<;>first|exact absurd rfl hne|skip
     refine⟨rfl,?_⟩
     have stF:Stp fr P hp P' h':=sAll.trans st
     have pF:Pre η η2:=Pre.trans ⟨_,rfl⟩ p2
     induction m using Bool.casesOn with
     |true=>exact⟨_,_,e2,h',tk,P',η2,rfl,stF,pF,I',S',.h hη⟩
     |false=>
      have e4:Mf false σ1.length (.v .none,σ2)=Ac ((frz σ2 (.h σ1.length)).map fun z=>(.v z.1,z.2)):=rfl
      rw[e4]at hne e2
      refine(let GG:=_;(?_:GG))
      cases e3:frz σ2 (.h σ1.length)with
      |none=>rw[e3]at hne;exact absurd rfl hne
      |some p=>
       rw[e3]at e2
       obtain⟨P2,s2,I2,S2,ry⟩:=Dk (y:=p.1) (σ':=p.2) hS I' S' (.h hη) e3
       exact⟨.v p.1,p.2,e2,h',tk,P2,η2,rfl,stF.trans s2,pF,I2,S2,.v ry⟩
end
end Mine.Internal
namespace Mine.Internal
open PySem PySem.W PyProof.Rows PySem.SeqAt PySem.MeetsSeq PySem.Calls
variable {W:Wd} {P P':GM} {fr:List Env} {h h':Heap} {η η':List Addr} {σ σ':Sto}
section
variable {A:Around} {s:Shared} {α α' β γ:Type} {cx:Cx} {env:Env} {ρ:PEnv} {M:Model}
theorem Av{X:α→(α'→Shared→Prop)→(Value→Shared→Prop)→Shared→Prop}(hX:∀v Q Q' E E' s,X v Q E s→(∀u s',Q u s'→Q' u s')→(∀e s',E e s'→E' e s')→X v Q' E' s)
 {t:Sem α} {r:Res (β×Sto)} {f:β×Sto→Res (γ×Sto)} {Rel:β→α→GM→List Addr→Prop} {Rel':γ→α'→GM→List Addr→Prop}
 (C:Cur W fr cx env ρ P η σ s.heap) (hne:r.bind f≠.stk) (h1:r≠.stk→wpAny M A t (QQ W fr P η s Rel r) (EE W fr P s r) s)
 (h2:∀b v σ1 h1 tk1 P1 η1,r=.ok (b,σ1)→f (b,σ1)≠.stk→Stp fr P s.heap P1 h1→Pre η η1→Cur W fr cx env ρ P1 η1 σ1 h1→Rel b v P1 η1→
  X v (QQ W fr P1 η1 {s with heap:=h1,toks:=tk1} Rel' (f (b,σ1))) (EE W fr P1 {s with heap:=h1,toks:=tk1} (f (b,σ1))) {s with heap:=h1,toks:=tk1}):
 wpAny M A t (fun v s1=>X v (QQ W fr P η s Rel' (r.bind f)) (EE W fr P s (r.bind f)) s1) (EE W fr P s (r.bind f)) s:=by
 refine wpAny_mono (h1 (D3 hne)) (fun v s1 q=>?_) (fun e s1 q=>?_)
 ·obtain⟨b,σ1,rfl,hp,tk,P1,η1,rfl,st,p,I1,S1,rel⟩:=q
  refine hX _ _ _ _ _ _ (h2 b v σ1 hp tk P1 η1 rfl hne st p (C.step st p I1 S1) rel) (fun u s2 q=>?_) (fun e s2 q=>?_)
  ·obtain⟨c,σ2,e,o⟩:=q
   exact⟨c,σ2,e,OkG.trans st p o⟩
  ·obtain⟨m,e,o⟩:=q
   exact⟨m,e,XQ.trans st I1 o⟩
 ·refine(let GG:=_;(?_:GG))
  obtain⟨m,rfl,o⟩:=q
  exact⟨m,rfl,o⟩
theorem x1{v:Sem α'}{Q Q':α'→Shared→Prop}{E E':Value→Shared→Prop}{s:Shared}(x:wpAny M A v Q E s)(hQ:∀u s',Q u s'→Q' u s')(hE:∀e s',E e s'→E' e s'):wpAny M A v Q' E' s:=wpAny_mono x hQ hE
theorem x2{v:Sem β}{k:β→Sem α'}{Q Q':α'→Shared→Prop}{E E':Value→Shared→Prop}{s:Shared}(x:wpAny M A v (fun b s2=>wpAny M A (k b) Q E s2) E s)(hQ:∀u s',Q u s'→Q' u s')(hE:∀e s',E e s'→E' e s'):
 wpAny M A v (fun b s2=>wpAny M A (k b) Q' E' s2) E' s:=wpAny_mono x (fun J J y=>wpAny_mono y hQ hE) hE
theorem retQ{s0:Shared}{t:Sem α'}{r:Res (γ×Sto)}{b:γ}{Rel:γ→α'→GM→List Addr→Prop}(e:r=.ok (b,σ'))(h:∀E,wpAny M A t (fun v s'=>OkG W fr P η s (Rel b v) σ' s') E s0):
 wpAny M A t (QQ W fr P η s Rel r) (EE W fr P s r) s0:=wpAny_mono (h _) (fun J J o=>⟨b,σ',e,o⟩) fun J J x=>x
theorem okQ{s0:Shared}{t:Sem Value}{r:Res (Val×Sto)}{b:Val}(e:r=.ok (b,σ'))(h:∀E,wpAny M A t (Ok W fr P η s σ' b) E s0):wpAny M A t (QQ W fr P η s (RelV W) r) (EE W fr P s r) s0:=
 retQ e fun E=>wpAny_mono (h E) (fun J J o=>o.toG) fun J J x=>x
theorem optQ{s0:Shared}{t:Sem Value}{o:Option (Val×Sto)}(hne:Ac o≠.stk)(h:∀b σ',o=some (b,σ')→∀E,wpAny M A t (Ok W fr P η s σ' b) E s0):
 wpAny M A t (QQ W fr P η s (RelV W) (Ac o)) (EE W fr P s (Ac o)) s0:=by
 induction o using Option.casesOn with
 |none=>exact absurd rfl hne
 |some q=>exact okQ rfl (h q.1 q.2 rfl)
theorem A6h{t:Sem Bool}{r:Res (Bool×Sto)}{b:Bool}(e:r=.ok (b,σ'))(h:∀E,wpAny M A t (fun v s'=>OkG W fr P η s (fun J J=>v=b) σ' s') E s):wpAny M A t (QQ W fr P η s RelB r) (EE W fr P s r) s:=retQ e h
end
noncomputable abbrev md(W:Wd):Model:=model W.prog W.w
section
variable (W:Wd) (G:Gl) (n:Nat) (Φ:Phi)
noncomputable def EvOk(ce:CE):Prop:=∀(cx:Cx) (e:Expr) (m:Bool) (ρ:PEnv) (σ:Sto) (A:Around) (fr:List Env) (env:Env) (P:GM) (η:List Addr) (s:Shared),ckE G cx ce e=true→AOK A fr n→Cur W fr cx env ρ P η σ s.heap→
 ev G.pol Φ ρ m ce σ≠.stk→wpAny (md W) A (eval e env) (QQ W fr P η s (RelV W) (ev G.pol Φ ρ m ce σ)) (EE W fr P s (ev G.pol Φ ρ m ce σ)) s
noncomputable def TrOk(ce:CE):Prop:=∀(cx:Cx) (e:Expr) (ρ:PEnv) (σ:Sto) (A:Around) (fr:List Env) (env:Env) (P:GM) (η:List Addr) (s:Shared),ckE G cx ce e=true→AOK A fr n→Cur W fr cx env ρ P η σ s.heap→
 Ar (ev G.pol Φ ρ false ce σ)≠.stk→wpAny (md W) A (isTrue e env (eval e env)) (QQ W fr P η s RelB (Ar (ev G.pol Φ ρ false ce σ))) (EE W fr P s (Ar (ev G.pol Φ ρ false ce σ))) s
noncomputable def Fz(es:CEs):Prop:=∀(cx:Cx) (xs:List Expr) (ρ:PEnv) (σ:Sto) (A:Around) (fr:List Env) (env:Env) (P:GM) (η:List Addr) (s:Shared),ckEs G cx es xs=true→AOK A fr n→Cur W fr cx env ρ P η σ s.heap→
 evs G.pol Φ ρ es σ≠.stk→wpAny (md W) A (spliced (xs.map fun x=>(false,eval x env))) (QQ W fr P η s (Aax W) (evs G.pol Φ ρ es σ)) (EE W fr P s (evs G.pol Φ ρ es σ)) s
noncomputable def BoOk(es:CEs):Prop:=∀(cx:Cx) (k:Bool) (op:BoolOp) (p:Pos) (xs:List Expr) (ρ:PEnv) (σ:Sto) (A:Around) (fr:List Env) (env:Env) (P:GM) (η:List Addr) (s:Shared),k=Ml op→xs≠[]→ckEs G cx es xs=true→AOK A fr n→Cur W fr cx env ρ P η σ s.heap→
 evBo G.pol Φ ρ k es σ≠.stk→wpAny (md W) A (boolOp p op (evalEach xs env)) (QQ W fr P η s (RelV W) (evBo G.pol Φ ρ k es σ)) (EE W fr P s (evBo G.pol Φ ρ k es σ)) s
noncomputable def T4(es:CEs):Prop:=∀(cx:Cx) (k:Bool) (op:BoolOp) (xs:List Expr) (ρ:PEnv) (σ:Sto) (A:Around) (fr:List Env) (env:Env) (P:GM) (η:List Addr) (s:Shared),k=Ml op→ckEs G cx es xs=true→AOK A fr n→Cur W fr cx env ρ P η σ s.heap→
 Ar (evBo G.pol Φ ρ k es σ)≠.stk→wpAny (md W) A (allTrue op xs env) (QQ W fr P η s RelB (Ar (evBo G.pol Φ ρ k es σ))) (EE W fr P s (Ar (evBo G.pol Φ ρ k es σ))) s
end
section
variable {G:Gl} {n:Nat} {Φ:Phi}
noncomputable def Iw:Expr→Bool
 |.UnaryOp .Not _ _=>false
 |.BoolOp _ _ _=>false
 |.IfExp _ _ _ _=>false
 |.Compare _ _ _ _=>false
 |_=>true
set_option tactic.hygienic true in
theorem K8{e:Expr}(h:Iw e=true)(env:Env)(whole:Sem Value):isTrue e env whole=(do let v←whole;standAt e.pos;holding [v] (truthy v)):=by
 induction e using PySem.Expr.casesOn<;>first|rfl|exact nf h|skip
 rename_i op _ _
 cases op<;>first|rfl|exact nf h
noncomputable def Aay:Bool→Value→GM→List Addr→Prop:=fun b v J J=>v=.bool b
theorem toB{M:Model}{A:Around}{cx:Cx}{env:Env}{ρ:PEnv}{s:Shared}{t:Sem Value}{r:Res (Val×Sto)}(C:Cur W fr cx env ρ P η σ s.heap)(hne:Ar r≠.stk)(h:r≠.stk→wpAny M A t (QQ W fr P η s (RelV W) r) (EE W fr P s r) s):
 wpAny M A t (QQ W fr P η s Aay (Ar r)) (EE W fr P s (Ar r)) s:=by
 refine Av (X:=fun v Q J s=>Q v s) (fun J J J J J J x a J=>a _ _ x) C hne h ?_
 intro b v σ1 h1 tk1 P1 η1 _ hf _ _ C1 rel
 cases rel with
 |h=>exact absurd rfl hf
 |v r=>
  cases r<;>try(exact absurd rfl hf)
  exact⟨_,_,rfl,h1,tk1,P1,η1,rfl,.refl ..,.refl _,C1.I,C1.S,rfl⟩
set_option tactic.hygienic true in
theorem Ys{ce:CE}(hE:EvOk W G n Φ ce){cx:Cx}{e:Expr}{ρ:PEnv}{A:Around}{env:Env}{s:Shared}(hp:Iw e=true)(hk:ckE G cx ce e=true)(hA:AOK A fr n)(C:Cur W fr cx env ρ P η σ s.heap)
 (hne:Ar (ev G.pol Φ ρ false ce σ)≠.stk):wpAny (md W) A (isTrue e env (eval e env)) (QQ W fr P η s RelB (Ar (ev G.pol Φ ρ false ce σ))) (EE W fr P s (Ar (ev G.pol Φ ρ false ce σ))) s:=by
 refine isTrue_plain ?_ (K8 hp env _)
 refine wpAny_mono (toB C hne fun h=>hE cx e false ρ σ A fr env P η s hk hA C h) (fun v s' q=>?_) fun J J x=>x
 obtain⟨b,σ1,e1,o⟩:=q
 obtain⟨h',tk,P',η',e2,a,b,c,d,r⟩:=o
 cases r
 exact wpAny_truthy_bool ⟨_,σ1,e1,h',tk,P',η',e2,a,b,c,d,rfl⟩
theorem A4s:Fz W G n Φ .nil:=by
 intro cx xs ρ σ A fr env P η s hk hA C hne
 induction xs using List.casesOn with
 |cons=>exact nf hk
 |nil=>exact retQ (b:=([]:List Val)) (σ':=σ) rfl fun E=>spliced_nil ⟨s.heap,s.toks,P,η,rfl,.refl ..,.refl _,C.I,C.S,.nil⟩
theorem A1c{e:CE}{r:CEs}(h1:EvOk W G n Φ e)(h2:Fz W G n Φ r):Fz W G n Φ (.cons e r):=by
 intro cx xs ρ σ A fr env P η s hk hA C hne
 induction xs using List.casesOn with
 |nil=>exact nf hk
 |cons x xs=>
  have hk:=band hk
  show wpAny (md W) A (spliced ((false,eval x env)::xs.map fun x=>(false,eval x env))) _ _ s
  refine spliced_cons ?_
  refine Av (X:=fun v Q E s=>wpAny (md W) A (spliced (xs.map fun x=>(false,eval x env))) (fun vs s2=>Q (v::vs) s2) E s) (fun J J J J J J x a b=>wpAny_mono x (fun J J y=>a _ _ y) b) C hne (fun h=>h1 cx x false ρ σ A fr env P η s hk.1 hA C h) ?_
  intro b v σ1 hp tk1 P1 η1 _ hf _ _ C1 rel
  refine wpAny_mono (h2 cx xs ρ σ1 A fr env P1 η1 {s with heap:=hp,toks:=tk1} hk.2 hA C1 (D3 hf)) (fun vs s2 q=>?_) (fun e s2 q=>?_)
  ·obtain⟨bs,σ2,e2,h',tk,P',η',a1,a2,a3,a4,a5,a6⟩:=q
   refine⟨b::bs,σ2,?_,h',tk,P',η',a1,a2,a3,a4,a5,.cons (RV.mono a2.le a3 rel) a6⟩
   dsimp only;rw[e2];rfl
  ·obtain⟨m,e2,o⟩:=q
   refine⟨m,?_,o⟩
   dsimp only;rw[e2];rfl
noncomputable def CEs.len:CEs→Nat
 |.nil=>0
 |.cons _ r=>r.len+1
theorem CEs.len_c{e:CE}{r:CEs}:(CEs.cons e r).len=r.len+1:=rfl
theorem Pl{pol:Pol}{ρ:PEnv}:∀{es:CEs} {σ σ':Sto} {l:List Val},evs pol Φ ρ es σ=.ok (l,σ')→l.length=es.len
 |.nil,σ,σ',l,h=>by cases h;rfl
 |.cons e r,σ,σ',l,h=>by
  obtain⟨a,_,h1⟩:=Res.bind_ok h
  obtain⟨b,h2,h3⟩:=Res.bind_ok h1
  cases h3
  exact congrArg (·+1) (Pl h2)
theorem Uk{cx:Cx}:∀{es:CEs} {xs:List Expr},ckEs G cx es xs=true→xs.length=es.len
 |.nil,[],_=>rfl
 |.nil,_::_,h=>nf h
 |.cons e r,[],h=>nf h
 |.cons e r,x::xs,h=>by
  have h:=band h
  exact congrArg (·+1) (Uk h.2)
theorem RVs.length{xs:List Val}{vs:List Value}(r:RVs (W:=W) P η xs vs):xs.length=vs.length:=by
 induction xs generalizing vs with
 |nil=>cases r;rfl
 |cons x xs ih=>cases r with|cons _ q=>simp[ih q]
theorem A8q{x:PV}:EvOk W G n Φ (.cst x):=by
 intro cx e m ρ σ A fr env P η s hk hA C hne
 refine Eo hk fun k p1 p2 hk=>?_
 ·refine okQ rfl fun E=>?_
  induction x using PV.casesOn<;>first|exact nf hk|skip
  ·exact A9s (R:=fun k=>wpAny (md W) A (eval (.Constant k p1 p2) env) _ _ s) hk (wpAny_pure (Ok.here0 C.I C.S (.v .none)))
  ·exact A9w (R:=fun k=>wpAny (md W) A (eval (.Constant k p1 p2) env) _ _ s) hk fun J hk=>by cases beqE hk;exact wpAny_pure (Ok.here0 C.I C.S (.v (.bool _)))
  ·exact A5o (R:=fun k=>wpAny (md W) A (eval (.Constant k p1 p2) env) _ _ s) hk fun J hk=>by cases beqE hk;exact wpAny_Constant_int (Ok.here C.I C.S (.v (.int _ _)) _)
  ·exact Rl (R:=fun k=>wpAny (md W) A (eval (.Constant k p1 p2) env) _ _ s) hk fun J hk=>by cases beqE hk;exact Constant_str (Ok.here C.I C.S (.v (.str _ _)) _)
theorem Rx{cx:Cx}{d i:Nat}{e:Expr}(h:A0s cx d i e=true):∃x p,e=.Name x p∧cx.tbl.lookup x=some (d,i)∧Bu x=true:=
 Dy h fun x p h=>⟨x,p,rfl,beqE (band h).1,(band h).2⟩
theorem G8{cx:Cx}{v:Value}{e:Expr}(h:isGl G cx v e=true):∃x p,e=.Name x p∧cx.names.lookup x=some .globalImplicit∧G.gt.lookup x=some v:=
 Dy h fun x p h=>⟨x,p,rfl,beqE (band h).1,beqE (band h).2⟩
theorem A8h{d i:Nat}:EvOk W G n Φ (.var d i):=by
 intro cx e m ρ σ A fr env P η s hk hA C hne
 refine(let GG:=_;(?_:GG))
 obtain⟨x,p,rfl,hl,hn⟩:=Rx hk
 have hv:ev G.pol Φ ρ m (.var d i) σ=kVar σ (getV ρ d i):=rfl
 cases hz:getV ρ d i with
 |none=>exact absurd (hv.trans (congrArg _ hz)) hne
 |some z=>exact retQ (hv.trans (congrArg _ hz)) fun E=>A48 C hl hn hz
theorem A8o(hG:GlOK W G){v:Value}:EvOk W G n Φ (.glb v):=by
 intro cx e m ρ σ A fr env P η s hk hA C hne
 obtain⟨x,p,rfl,hl,hn⟩:=G8 hk
 exact okQ rfl fun E=>G9 hG C hl hn (Ok.here0 C.I C.S (.v (.raw _)))
theorem A8i(hG:GlOK W G){es:CEs}(h1:Fz W G n Φ es):EvOk W G n Φ (.tupE es):=by
 intro cx e m ρ σ A fr env P η s hk hA C hne
 refine Kj hk fun xs k p hk=>?_
 ·have hk:=band hk
  have hk:=And.intro hk.1 (decE hk.2)
  refine Tuple_ ?_
  rw[B7 hk.1,Ev]
  refine Av (X:=fun v Q E s=>wpAny (md W) A (newTuple v) Q E s) (fun J J J J J J x a b=>x1 x a b) C hne (fun h=>h1 cx xs ρ σ A fr env P η s hk.1 hA C h) ?_
  intro b v σ1 hp tk1 P1 η1 eb hf _ _ C1 rel
  refine optQ hf fun c σ2 ho E=>?_
  simp only[Option.map_eq_some_iff,Prod.mk.injEq]at ho
  obtain⟨⟨ys,σ3⟩,e1,rfl,rfl⟩:=ho
  obtain⟨P2,s2,I2,S2,r2⟩:=Ga (h:=hp) hG.ok.sys C1.I C1.S rel e1
  have hlen:v.length≤30:=by rw[←rel.length,Pl eb,←Uk hk.1];exact hk.2
  refine wpAny_newTuple (Ok.after s2 (Ok.push (tk:=tk1) (Pe hG.ok.sys I2 S2 r2 ⟨0,rfl⟩ (Ah _ _) (Ak _) (Heap.get?_push_size _ rfl)))) ?_
  rw[sizeLine_eq];omega
theorem A8m(hG:GlOK W G){es:CEs}(h1:Fz W G n Φ es):EvOk W G n Φ (.lstE es):=by
 intro cx e m ρ σ A fr env P η s hk hA C hne
 refine Tp hk fun xs p hk=>?_
 ·have hk:=band hk
  have hk:=And.intro hk.1 (decE hk.2)
  refine List_ ?_
  rw[B7 hk.1,Ev]
  refine Av (X:=fun v Q E s=>wpAny (md W) A (newList v) Q E s) (fun J J J J J J x a b=>x1 x a b) C hne (fun h=>h1 cx xs ρ σ A fr env P η s hk.1 hA C h) ?_
  intro b v σ1 hp tk1 P1 η1 eb hf _ _ C1 rel
  refine optQ hf fun c σ2 ho E=>?_
  simp only[Option.map_eq_some_iff]at ho
  obtain⟨⟨ys,σ3⟩,e1,e2⟩:=ho
  obtain⟨P2,s2,I2,S2,r2⟩:=Ga (h:=hp) hG.ok.sys C1.I C1.S rel e1
  have hlen:v.length≤30:=by rw[←rel.length,Pl eb,←Uk hk.1];exact hk.2
  obtain⟨e3,e4⟩:=mkE e2
  rw[e3,e4]
  refine wpAny_newList (Ok.after s2 (Ok.push (tk:=tk1) (Lz (n:=0) hG.ok.sys I2 S2 r2 m (Ah _ _) (Ak _) (Heap.get?_push_size _ rfl)))) ?_
  rw[sizeLine_eq];omega
theorem A8k{a:CE}(h1:EvOk W G n Φ a):EvOk W G n Φ (.notE a):=by
 intro cx e m ρ σ A fr env P η s hk hA C hne
 refine Hq hk fun q x p=>Ae fun hq hk=>?_
 refine A5n (R:=fun q=>wpAny (md W) A (eval (.UnaryOp q x p) env) _ _ s) hq ?_
 refine wpAny_UnaryOp ?_
 refine Av (X:=fun v Q E s=>wpAny (md W) A (unaryOp .Not v) Q E s) (fun J J J J J J x a b=>x1 x a b) C hne (fun h=>toB C h fun h=>h1 cx x false ρ σ A fr env P η s hk hA C h) ?_
 intro b v σ1 hp tk1 P1 η1 _ hf _ _ C1 rel
 cases rel
 exact okQ rfl fun E=>not_of (wpAny_truthy_bool (Ok.here0 C1.I C1.S (.v (.bool _))))
theorem A8l{a:CE}(h1:EvOk W G n Φ a):EvOk W G n Φ (.negE a):=by
 intro cx e m ρ σ A fr env P η s hk hA C hne
 refine Hq hk fun q x p=>Ae fun hq hk=>?_
 ·refine Zv (R:=fun q=>wpAny (md W) A (eval (.UnaryOp q x p) env) _ _ s) hq ?_
  refine wpAny_UnaryOp ?_
  refine Av (X:=fun v Q E s=>wpAny (md W) A (unaryOp .USub v) Q E s) (fun J J J J J J x a b=>x1 x a b) C hne (fun h=>h1 cx x false ρ σ A fr env P η s hk hA C h) ?_
  intro b v σ1 hp tk1 P1 η1 eb hf _ _ C1 rel
  cases rel with
  |h=>exact absurd rfl hf
  |v r=>
   cases r<;>try(exact absurd rfl hf)
   exact okQ rfl fun E=>PyProof.Rows.neg_int (Ok.here C1.I C1.S (.v (.int _ _)) _)
theorem A8s(hG:GlOK W G){op:Bop}{a b:CE}(h1:EvOk W G n Φ a)(h2:EvOk W G n Φ b):EvOk W G n Φ (.bin op a b):=by
 intro cx e m ρ σ A fr env P η s hk hA C hne
 refine A5t hk fun l o r p=>Ez fun ho hk1 hk2=>Js ho ?_
 ·refine wpAny_BinOp ?_
  refine Av (X:=fun v Q E s=>wpAny (md W) A (eval r env) (fun u s2=>wpAny (md W) A (binaryOp (bop op) v u) Q E s2) E s) (fun J J J J J J x a b=>x2 x a b) C hne (fun h=>h1 cx l false ρ σ A fr env P η s hk1 hA C h) ?_
  intro b1 v1 σ1 hp1 tk1 P1 η1 _ hf1 _ _ C1 rel1
  refine Av (X:=fun u Q E s=>wpAny (md W) A (binaryOp (bop op) v1 u) Q E s) (fun J J J J J J x a b=>x1 x a b) C1 hf1 (fun h=>h2 cx r false ρ σ1 A fr env P1 η1 _ hk2 hA C1 h) ?_
  intro b2 v2 σ2 hp2 tk2 P2 η2 _ hf2 st2 p2 C2 rel2
  refine optQ hf2 fun c σ3 ho E=>?_
  simp only[Option.bind_eq_some_iff]at ho
  refine(let GG:=_;(?_:GG))
  obtain⟨x,ex,y,ey,e3⟩:=ho
  exact A95 (s:={s with heap:=hp2,toks:=tk2}) hG.ok.sys C2.I C2.S (Fj C2.S (RV.mono st2.le p2 rel1) ex) (Fj C2.S rel2 ey) e3
theorem Hv{op:CmpOp}{r:Expr}(h:J0 r=true):behindInMarks op r=false:=by
 induction r using PySem.Expr.casesOn<;>first|rfl|exact nf h
theorem A8r(hG:GlOK W G){op:Cop}{a b:CE}(h1:EvOk W G n Φ a)(h2:EvOk W G n Φ b):EvOk W G n Φ (.cmp op a b)∧TrOk W G n Φ (.cmp op a b):=by
 constructor
 ·intro cx e m ρ σ A fr env P η s hk hA C hne
  refine A5r hk fun l os rs p hk=>E7 hk fun o hk=>E7 hk fun r=>Od fun ho hk0 hk1 hk2=>Js ho ?_
  ·refine wpAny_Compare1 ?_ (Hv hk0)
   refine Av (X:=fun v Q E s=>wpAny (md W) A (eval r env) (fun u s2=>wpAny (md W) A (compareOp (cop op) v u) Q E s2) E s) (fun J J J J J J x a b=>x2 x a b) C hne (fun h=>h1 cx l false ρ σ A fr env P η s hk1 hA C h) ?_
   intro b1 v1 σ1 hp1 tk1 P1 η1 _ hf1 _ _ C1 rel1
   refine Av (X:=fun u Q E s=>wpAny (md W) A (compareOp (cop op) v1 u) Q E s) (fun J J J J J J x a b=>x1 x a b) C1 hf1 (fun h=>h2 cx r false ρ σ1 A fr env P1 η1 _ hk2 hA C1 h) ?_
   intro b2 v2 σ2 hp2 tk2 P2 η2 _ hf2 st2 p2 C2 rel2
   refine optQ hf2 fun c σ3 ho E=>?_
   simp only[Option.bind_eq_some_iff,Option.map_eq_some_iff,Prod.mk.injEq]at ho
   refine(let GG:=_;(?_:GG))
   obtain⟨x,ex,y,ey,z,ez,rfl,rfl⟩:=ho
   have H:=Dw C2.I
   exact A1y (s:={s with heap:=hp2,toks:=tk2}) H (V9 C2.I) hA.u8 (Vu C2.S (RV.mono st2.le p2 rel1) ex) (Vu C2.S rel2 ey) ez fun tk=>Ok.here (s:={s with heap:=hp2,toks:=tk2}) C2.I C2.S (.v (.bool _)) tk
 ·intro cx e ρ σ A fr env P η s hk hA C hne
  refine A5r hk fun l os rs p hk=>E7 hk fun o hk=>E7 hk fun r=>Od fun ho hk0 hk1 hk2=>Js ho ?_
  ·have assoc:∀{α β γ:Type} (r:Res α) (f:α→Res β) (g:β→Res γ),(r.bind f).bind g=r.bind fun a=>(f a).bind g:=by
    intro α β γ r f g;induction r using Res.casesOn<;>rfl
   have eq0:Ar (ev G.pol Φ ρ false (.cmp op a b) σ)=(ev G.pol Φ ρ false a σ).bind fun r=>(ev G.pol Φ ρ false b r.2).bind fun q=>Ac ((pk q.2 r.1).bind fun x=>(pk q.2 q.1).bind fun y=>(cmpP op x y).map fun z=>(z,q.2)):=by
    unfold Ar;refine(assoc ..).trans ?_;congr 1;funext r1;rw[assoc];congr 1;funext q
    cases pk q.2 r1.1 with
    |none=>rfl
    |some x=>cases pk q.2 q.1 with
     |none=>rfl
     |some y=>simp only[Option.bind_some];cases cmpP op x y<;>rfl
   rw[eq0]at hne⊢
   refine wpAny_isTrue_Compare1 ?_ (Hv hk0)
   refine Av (X:=fun v Q E s=>wpAny (md W) A (eval r env) (fun u s2=>wpAny (md W) A (compareOp (cop op) v u) (fun c s3=>wpAny (md W) A (truthy c) Q E s3) E s2) E s) (fun J J J J J J x a b=>wpAny_mono x (fun J J y=>x2 y a b) b) C hne (fun h=>h1 cx l false ρ σ A fr env P η s hk1 hA C h) ?_
   intro b1 v1 σ1 hp1 tk1 P1 η1 _ hf1 _ _ C1 rel1
   refine Av (X:=fun u Q E s=>wpAny (md W) A (compareOp (cop op) v1 u) (fun c s3=>wpAny (md W) A (truthy c) Q E s3) E s) (fun J J J J J J x a b=>x2 x a b) C1 hf1 (fun h=>h2 cx r false ρ σ1 A fr env P1 η1 _ hk2 hA C1 h) ?_
   intro b2 v2 σ2 hp2 tk2 P2 η2 _ hf2 st2 p2 C2 rel2
   dsimp only at hf2⊢
   cases ho:((pk σ2 b1).bind fun x=>(pk σ2 b2).bind fun y=>(cmpP op x y).map fun z=>(z,σ2))with
   |none=>rw[ho]at hf2;exact absurd rfl hf2
   |some q=>
    simp only[Option.bind_eq_some_iff,Option.map_eq_some_iff,Prod.mk.injEq]at ho
    refine(let GG:=_;(?_:GG))
    obtain⟨x,ex,y,ey,z,ez,rfl⟩:=ho
    have H:=Dw C2.I
    refine A1y (s:={s with heap:=hp2,toks:=tk2}) H (V9 C2.I) hA.u8 (Vu C2.S (RV.mono st2.le p2 rel1) ex) (Vu C2.S rel2 ey) ez fun tk=>?_
    exact wpAny_truthy_bool ⟨z,σ2,rfl,hp2,tk,P2,η2,rfl,.refl ..,.refl _,C2.I,C2.S,rfl⟩
end
end Mine.Internal
namespace Mine.Internal
open PySem PySem.W PyProof.Rows PySem.SeqAt PySem.MeetsSeq PySem.Calls
variable {W:Wd} {P P':GM} {fr:List Env} {h h':Heap} {η η':List Addr} {σ σ':Sto}
section
variable {M:Model} {A:Around} {E:Value→Shared→Prop} {s:Shared} {env:Env}
theorem Pm{f:Value}{args:List (Bool×Sem Value)}{Q:Args→Shared→Prop}(hp:args.any (·.1)=false)(h:wpAny M A (spliced args) (fun vs s'=>Q ⟨vs,[]⟩ s') E s):wpAny M A (evalArgs f true args []) Q E s:=by
 induction args using List.casesOn with
 |cons a r=>
  obtain⟨b,t⟩:=a
  induction b using Bool.casesOn with
  |true=>simp at hp
  |false=>exact evalArgs_plain h
 |nil=>
  unfold evalArgs
  show wpAny M A (spliced []>>=_) Q E s
  refine wpAny_bind (wpAny_mono h (fun vs s' hq=>?_) fun J J x=>x)
  refine wpAny_bind (wpAny_pure ?_)
  refine wpAny_holding ?_
  simp only[List.all_nil,if_true]
  refine wpAny_bind (wpAny_pure ?_)
  exact wpAny_bind (wpAny_pure (wpAny_pure hq))
theorem Ni(env:Env)(xs:List Expr):(xs.map fun x=>((false,eval x env):Bool×Sem Value)).any (·.1)=false:=by simp
theorem Ci{P0:Heap→Prop}{f:Value}{first:List Value}{args:List Expr}{pos:Pos}{Q:Value→Shared→Prop}(hs:starEach args env=args.map fun x=>(false,eval x env))
 (hk:∀h,P0 h→∃k,(k=Keeper.frame∨k=Keeper.machine∨k=Keeper.boundFrame)∧Looks M h (keeperOf f) k)
 (h:wpAny M A (spliced (args.map fun x=>(false,eval x env))) (fun vs s₁=>P0 s₁.heap∧wpAny M A (call f (first++vs)) Q E s₁) E s):wpAny M A (callWith pos f first (backTo pos (starEach args env)) []) Q E s:=by
 rw[hs,Ev]
 exact callWith_of (P:=P0) (by rw[Ni];rfl) hk (Pm (Ni _ _) h)
theorem Cq(id:String):∀h,True→∃k,(k=Keeper.frame∨k=Keeper.machine∨k=Keeper.boundFrame)∧Looks M h (keeperOf (.builtin id)) k:=fun h J=>⟨.machine,.inr (.inl rfl),Looks.now⟩
theorem Rs(id:String):∀h,True→∃k,(k=Keeper.frame∨k=Keeper.machine∨k=Keeper.boundFrame)∧Looks M h (keeperOf (.type id)) k:=fun h J=>⟨.machine,.inr (.inl rfl),Looks.now⟩
theorem Tz(b:Bid):∀h,True→∃k,(k=Keeper.frame∨k=Keeper.machine∨k=Keeper.boundFrame)∧Looks M h (keeperOf (bidV b)) k:=by
 induction b using Bid'.casesOn<;>first|exact Cq _|exact Rs _
set_option tactic.hygienic true in
theorem Mm{o:Expr}(h:Ly o=true)(attr:Str)(env:Env)(whole:Sem Value):attributeBase o attr env whole=whole:=by
 induction o using PySem.Expr.casesOn<;>first|rfl|skip
 rename_i f xs ks p
 cases xs
 ·exact nf h
 ·cases f<;>rfl
theorem G7{o:Expr}{name:Str}{apos pos:Pos}{args:List Expr}{Q:Value→Shared→Prop}(hs:Ly o=true)(hp:(apos.endLine==pos.line)=true)(hlen:args.length<30)(hst:starEach args env=args.map fun x=>(false,eval x env))
 (h:wpAny M A (eval o env) (fun ov s₁=>∀pl,wpAny M A (getMethod ov name pl) (fun fx s₂=>wpAny M A (callWith pos fx.1 fx.2 (backTo pos (starEach args env)) []) Q E s₂) E s₁) E s):
 wpAny M A (eval (.Call (.Attribute o name apos) args [] pos) env) Q E s:=by
 have e0:eval (.Call (.Attribute o name apos) args [] pos) env=(do
  let ov←attributeBase o name env (eval o env)
  standAt apos.atName
  methodCall o name apos pos env ov (args.length+0) (backTo pos (starEach args env)) (backToKw pos (keywordEach [] env))):=rfl
 rw[e0,Mm hs]
 refine wpAny_bind (wpAny_mono h (fun ov s₁ h₁=>wpAny_bind (wpAny_standAt ?_)) fun J J x=>x)
 unfold methodCall
 have few:methodCallForm (args.length+0) (backTo pos (starEach args env)) (backToKw pos (keywordEach [] env))=true:=by
  unfold methodCallForm
  rw[hst,Ev]
  have:backToKw pos (keywordEach [] env)=[]:=rfl
  rw[this]
  simp;omega
 rw[few]
 refine wpAny_bind (wpAny_holding ?_)
 show wpAny M A (getMethod ov name _) _ _ _
 refine wpAny_mono (h₁ _) (fun fx s₂ h₂=>?_) fun J J x=>x
 obtain⟨f,first⟩:=fx
 dsimp only
 unfold methodCallPos
 rw[if_pos (by rw[hp];rfl)]
 exact wpAny_bind (wpAny_pure h₂)
theorem Oe{o:Expr}{name:Str}{pos:Pos}{Q:Value→Shared→Prop}(hs:Ly o=true)
 (h:wpAny (md W) A (eval o env) (fun ov s₁=>wpAny (md W) A (getAttr ov name true) Q E s₁) E s):wpAny (md W) A (eval (.Attribute o name pos) env) Q E s:=by
 have e0:eval (.Attribute o name pos) env=(do
  let ov←attributeBase o name env (eval o env)
  standAt pos.atName
  let r←holding [ov] (getAttr ov name true)
  letTemporaryGo o ov r
  pure r):=rfl
 rw[e0,Mm hs]
 exact wpAny_bind (wpAny_mono h (fun ov s₁ h₁=>wpAny_bind (wpAny_standAt (wpAny_bind (wpAny_holding (wpAny_mono h₁ (fun r s₂ h₂=>wpAny_bind (wpAny_letTemporaryGo (wpAny_pure h₂))) fun J J x=>x))))) fun J J x=>x)
end
section
variable {G:Gl} {n:Nat} {Φ:Phi}
theorem A1g(hG:GlOK W G)(hΦ:K3 W G n Φ){f:Nat}{es:CEs}(h1:Fz W G n Φ es):EvOk W G n Φ (.callF f es):=by
 intro cx e m ρ σ A fr env P η s hk hA C hne
 refine Hu hk fun f0 args p2=>Ez fun hk0 hf0 hk1=>?_
 ·have hf0:=decE hf0
  obtain⟨x',p',rfl,hl,hn⟩:=G8 hk0
  refine Call_ (G9 hG C hl hn ?_)
  rw[←hG.fnsE]
  refine Ci (P0:=fun h=>W.K.In h) (B7 hk1) (keeps_K (hG.keepF f hf0)) ?_
  refine Av (X:=fun v Q E s=>W.K.In s.heap∧wpAny (md W) A (call (.ref (W.fns f)) ([]++v)) Q E s) (fun J J J J J J x a b=>⟨x.1,x1 x.2 a b⟩) C hne (fun h=>h1 cx args ρ σ A fr env P η s hk1 hA C h) ?_
  intro b v σ1 hp tk1 P1 η1 _ hf _ _ C1 rel
  exact⟨Inv.K hG.ok C1.I,Y6 (s:={s with heap:=hp,toks:=tk1}) hG.ok hΦ hA hf0 C1.I C1.S rel hf⟩
theorem A1h(hG:GlOK W G)(hΦ:K3 W G n Φ){c:Nat}{es:CEs}(h1:Fz W G n Φ es):EvOk W G n Φ (.callC c es):=by
 intro cx e m ρ σ A fr env P η s hk hA C hne
 refine Hu hk fun f0 args p2=>Ez fun hk0 hc0 hk1=>?_
 ·have hc0:=decE hc0
  obtain⟨x',p',rfl,hl,hn⟩:=G8 hk0
  refine Call_ (G9 hG C hl hn ?_)
  rw[←hG.clsE]
  refine Ci (P0:=fun h=>W.K.In h) (B7 hk1) (keeps_K (hG.keepC c (by omega))) ?_
  refine Av (X:=fun v Q E s=>W.K.In s.heap∧wpAny (md W) A (call (.ref (W.cls c)) ([]++v)) Q E s) (fun J J J J J J x a b=>⟨x.1,x1 x.2 a b⟩) C hne (fun h=>h1 cx args ρ σ A fr env P η s hk1 hA C h) ?_
  intro b v σ1 hp tk1 P1 η1 _ hf _ _ C1 rel
  exact⟨Inv.K hG.ok C1.I,A23 (s:={s with heap:=hp,toks:=tk1}) (m:=m) hG hΦ hA hc0 C1.I C1.S rel hf⟩
noncomputable def Mo(W:Wd):Prop:=∀(P:GM) (η:List Addr) (σ σ':Sto) (fr:List Env) (n:Nat) (A:Around) (s:Shared) (E:Value→Shared→Prop) (m:Bool) (xs:List Val) (vs:List Value) (z:Val),AOK A fr n→Inv W P fr s.heap→SR W P η σ→
 RVs (W:=W) P η xs vs→callB .sorted m xs σ=some (z,σ')→wpAny (md W) A (call (bidV .sorted) vs) (Ok W fr P η s σ' z) E s
theorem A1i(hG:GlOK W G)(hS:Mo W){b:Bid}{es:CEs}(h1:Fz W G n Φ es):EvOk W G n Φ (.callB b es):=by
 intro cx e m ρ σ A fr env P η s hk hA C hne
 refine Hu hk fun f0 args p2=>Ae fun hk0 hk=>?_
 ·have hk1:=hk
  obtain⟨x',p',rfl,hl,hn⟩:=G8 hk0
  refine Call_ (G9 hG C hl hn ?_)
  refine Ci (P0:=fun J=>True) (B7 hk1) (Tz b) ?_
  refine Av (X:=fun v Q E s=>True∧wpAny (md W) A (call (bidV b) ([]++v)) Q E s) (fun J J J J J J x a b=>⟨x.1,x1 x.2 a b⟩) C hne (fun h=>h1 cx args ρ σ A fr env P η s hk1 hA C h) ?_
  intro b1 v σ1 hp tk1 P1 η1 _ hf _ _ C1 rel
  refine⟨trivial,optQ hf fun c σ2 ho E=>?_⟩
  by_cases hb:b=.sorted
  ·subst hb;exact hS P1 η1 σ1 σ2 fr n A _ E m b1 v c hA C1.I C1.S rel ho
  ·exact A24 (s:={s with heap:=hp,toks:=tk1}) hG.ok hA hb C1.I C1.S rel ho
theorem A4y(hG:GlOK W G){a:CE}{nm:Cs}(h1:EvOk W G n Φ a):EvOk W G n Φ (.attr a nm):=by
 intro cx e m ρ σ A fr env P η s hk hA C hne
 refine Iz hk fun o name p=>Od fun hq hk0 hk1 hk2=>Js hq ?_
 ·refine(let GG:=_;(?_:GG))
  obtain⟨q1,q2,q3,q4⟩:=hG.attr nm (List.contains_iff_mem.mp hk0)
  refine Oe hk1 ?_
  refine Av (X:=fun v Q E s=>wpAny (md W) A (getAttr v (sv nm) true) Q E s) (fun J J J J J J x a b=>x1 x a b) C hne (fun h=>h1 cx o false ρ σ A fr env P η s hk2 hA C h) ?_
  intro b v σ1 hp tk1 P1 η1 _ hf _ _ C1 rel
  refine optQ hf fun c σ2 ho E=>?_
  simp only[Option.bind_eq_some_iff]at ho
  refine(let GG:=_;(?_:GG))
  obtain⟨x,ex,ho⟩:=ho
  split at ho
  ·cases ho
  ·rename_i hr
   cases ho
   exact A59 (s:={s with heap:=hp,toks:=tk1}) hG.ok C1.I C1.S rel ex (by simpa using hr) rfl q1 q2
theorem Yw{slice:Expr}(h:Lw slice=true)(o i:Value):subscripted slice false o i=operate [o,i] (getItem o i):=by
 induction slice using PySem.Expr.casesOn<;>first|rfl|exact nf h
theorem A8j(hG:GlOK W G){a b:CE}(h1:EvOk W G n Φ a)(h2:EvOk W G n Φ b):EvOk W G n Φ (.sub a b):=by
 intro cx e m ρ σ A fr env P η s hk hA C hne
 refine Hr hk fun o i p=>Ez fun hk0 hk1 hk2=>?_
 ·refine Subscript_ ?_
  refine Av (X:=fun v Q E s=>wpAny (md W) A (eval i env) (fun u s2=>wpAny (md W) A (subscriptTail o i v u) Q E s2) E s) (fun J J J J J J x a b=>x2 x a b) C hne (fun h=>h1 cx o false ρ σ A fr env P η s hk1 hA C h) ?_
  intro b1 v1 σ1 hp1 tk1 P1 η1 _ hf1 _ _ C1 rel1
  refine Av (X:=fun u Q E s=>wpAny (md W) A (subscriptTail o i v1 u) Q E s) (fun J J J J J J x a b=>x1 x a b) C1 hf1 (fun h=>h2 cx i false ρ σ1 A fr env P1 η1 _ hk2 hA C1 h) ?_
  intro b2 v2 σ2 hp2 tk2 P2 η2 _ hf2 st2 p2 C2 rel2
  refine optQ hf2 fun c σ3 ho E=>?_
  simp only[Option.bind_eq_some_iff,Option.map_eq_some_iff,Prod.mk.injEq]at ho
  refine(let GG:=_;(?_:GG))
  obtain⟨x,ex,y,ey,z,ez,rfl,rfl⟩:=ho
  exact A71 (s:={s with heap:=hp2,toks:=tk2}) C2.I C2.S (Fj C2.S (RV.mono st2.le p2 rel1) ex) (Fj C2.S rel2 ey) ez (Yw hk0)
theorem A2o{M:Model}{A:Around}{E:Value→Shared→Prop}{s:Shared}{env:Env}{u:Expr}{p:Pos}{Q:Value→Shared→Prop}
 (h:wpAny M A (eval u env) (fun uv s1=>Q (.ref s1.heap.objs.size) {s1 with heap:=s1.heap.push (slcO .none uv .none)}) E s):wpAny M A (eval (.Slice none (some u) none p) env) Q E s:=by
 rw[arm_eval_Slice]
 refine wpAny_bind (wpAny_pure (wpAny_bind (wpAny_holding (wpAny_mono h (fun uv s1 h1=>wpAny_bind (wpAny_holding (wpAny_pure ?_))) fun J J x=>x))))
 unfold newFields
 exact wpAny_newObj_type h1 (by size_fits)
theorem V5{M:Model}{A:Around}{E:Value→Shared→Prop}{s:Shared}{env:Env}{u:Expr}{p:Pos}{Q:Value→Shared→Prop}
 (h:wpAny M A (eval u env) (fun uv s1=>Q (.ref s1.heap.objs.size) {s1 with heap:=s1.heap.push (slcO uv .none .none)}) E s):wpAny M A (eval (.Slice (some u) none none p) env) Q E s:=by
 rw[arm_eval_Slice]
 refine wpAny_bind (wpAny_mono h (fun uv s1 h1=>wpAny_bind (wpAny_holding (wpAny_pure (wpAny_bind (wpAny_holding (wpAny_pure ?_)))))) fun J J x=>x)
 unfold newFields
 exact wpAny_newObj_type h1 (by size_fits)
end
end Mine.Internal
namespace Mine.Internal
open PySem PySem.W PyProof.Rows PySem.SeqAt PySem.MeetsSeq PySem.Calls
variable {W:Wd} {P P':GM} {fr:List Env} {h h':Heap} {η η':List Addr} {σ σ':Sto}
section
variable {G:Gl} {n:Nat} {Φ:Phi}
@[elab_as_elim] theorem intQ{o:Val}{v:Value}{F:Int→Res (Val×Sto)}{R:Val→Value→Prop}(r:RV (W:=W) P η o v)(h:(match o with|.v (.int j)=>F j|_=>.stk)≠.stk)(c:∀j t,F j≠.stk→R (.v (.int j)) (.int j t)):R o v:=by
 cases r with
 |h=>exact absurd rfl h
 |v r=>cases r<;>first|exact absurd rfl h|exact c _ _ h
theorem A1d(hG:GlOK W G){a b:CE}(h1:EvOk W G n Φ a)(h2:EvOk W G n Φ b):EvOk W G n Φ (.slcTo a b):=by
 intro cx e m ρ σ A fr env P η s hk hA C hne
 refine Hr hk fun o s0 p hk=>P8 hk fun J J J p2 hk=>onNo hk fun hk=>onSo hk fun i hk=>onNo hk (Ae fun hk1 hk2=>?_)
 ·refine Subscript_ ?_
  refine Av (X:=fun v Q E s=>wpAny (md W) A (eval (.Slice none (some i) none p2) env) (fun u s2=>wpAny (md W) A (subscriptTail o (.Slice none (some i) none p2) v u) Q E s2) E s) (fun J J J J J J x a b=>x2 x a b) C hne (fun h=>h1 cx o false ρ σ A fr env P η s hk1 hA C h) ?_
  intro b1 v1 σ1 hp1 tk1 P1 η1 _ hf1 _ _ C1 rel1
  refine A2o ?_
  refine Av (X:=fun u Q E s=>wpAny (md W) A (subscriptTail o (.Slice none (some i) none p2) v1 (.ref s.heap.objs.size)) Q E {s with heap:=s.heap.push (slcO .none u .none)}) (fun J J J J J J x a b=>x1 x a b) C1 hf1 (fun h=>h2 cx i false ρ σ1 A fr env P1 η1 _ hk2 hA C1 h) ?_
  intro b2 v2 σ2 hp2 tk2 P2 η2 _ hf2 st2 p2 C2 rel2
  refine intQ rel2 hf2 fun j t hf2=>?_
  ·refine optQ hf2 fun c σ3 ho E=>?_
   obtain⟨x,ex,e3⟩:=Option.bind_eq_some_iff.mp ho
   exact Z2 (s:={s with heap:=hp2,toks:=tk2}) (tk:=tk2) hG.ok C2.I C2.S (Fj C2.S (RV.mono st2.le p2 rel1) ex) e3 fun J J=>rfl
theorem Uc(hG:GlOK W G){a b:CE}(h1:EvOk W G n Φ a)(h2:EvOk W G n Φ b):EvOk W G n Φ (.slcFrom a b):=by
 intro cx e m ρ σ A fr env P η s hk hA C hne
 refine Hr hk fun o s0 p hk=>P8 hk fun J J J p2 hk=>onSo hk fun i hk=>onNo hk fun hk=>onNo hk (Ae fun hk1 hk2=>?_)
 ·refine Subscript_ ?_
  refine Av (X:=fun v Q E s=>wpAny (md W) A (eval (.Slice (some i) none none p2) env) (fun u s2=>wpAny (md W) A (subscriptTail o (.Slice (some i) none none p2) v u) Q E s2) E s) (fun J J J J J J x a b=>x2 x a b) C hne (fun h=>h1 cx o false ρ σ A fr env P η s hk1 hA C h) ?_
  intro b1 v1 σ1 hp1 tk1 P1 η1 _ hf1 _ _ C1 rel1
  refine V5 ?_
  refine Av (X:=fun u Q E s=>wpAny (md W) A (subscriptTail o (.Slice (some i) none none p2) v1 (.ref s.heap.objs.size)) Q E {s with heap:=s.heap.push (slcO u .none .none)}) (fun J J J J J J x a b=>x1 x a b) C1 hf1 (fun h=>h2 cx i false ρ σ1 A fr env P1 η1 _ hk2 hA C1 h) ?_
  intro b2 v2 σ2 hp2 tk2 P2 η2 _ hf2 st2 p2 C2 rel2
  refine intQ rel2 hf2 fun j t hf2=>?_
  ·refine optQ hf2 fun c σ3 ho E=>?_
   obtain⟨x,ex,e3⟩:=Option.bind_eq_some_iff.mp ho
   exact Tb (s:={s with heap:=hp2,toks:=tk2}) (tk:=tk2) hG.ok C2.I C2.S (Fj C2.S (RV.mono st2.le p2 rel1) ex) e3 fun J J=>rfl
theorem Xy(hG:GlOK W G){a:CE}(h1:EvOk W G n Φ a):EvOk W G n Φ (.slcRev a):=by
 intro cx e m ρ σ A fr env P η s hk hA C hne
 refine Hr hk fun o s0 q5 hk=>P8 hk fun J J J q4 hk=>onNo hk fun hk=>onNo hk fun hk=>onSo hk fun u hk=>Hq hk fun q y q3=>Ez fun hq hq2 hk=>?_
 ·refine Zv hq (Eo hq2 fun c q1 q2 hq2=>A5o hq2 fun j hq2=>?_)
  cases beqE hq2
  refine Subscript_ ?_
  refine Av (X:=fun v Q E s=>wpAny (md W) A (eval (.Slice none none (some (.UnaryOp .USub (.Constant (.int 1) q1 q2) q3)) q4) env) (fun u s2=>wpAny (md W) A (subscriptTail o (.Slice none none (some (.UnaryOp .USub (.Constant (.int 1) q1 q2) q3)) q4) v u) Q E s2) E s) (fun J J J J J J x a b=>x2 x a b) C hne (fun h=>h1 cx o false ρ σ A fr env P η s hk hA C h) ?_
  intro b1 v1 σ1 hp1 tk1 P1 η1 _ hf1 _ _ C1 rel1
  dsimp only at hf1⊢
  rw[arm_eval_Slice]
  refine wpAny_bind (wpAny_pure (wpAny_bind (wpAny_holding (wpAny_pure (wpAny_bind (wpAny_holding ?_))))))
  show wpAny (md W) A (eval (.UnaryOp .USub (.Constant (.int 1) q1 q2) q3) env) _ _ _
  refine wpAny_UnaryOp (wpAny_Constant_int (PyProof.Rows.neg_int ?_))
  unfold newFields
  refine wpAny_newObj_type ?_ (by size_fits)
  refine optQ hf1 fun c σ3 ho E=>?_
  obtain⟨x,ex,e3⟩:=Option.bind_eq_some_iff.mp ho
  induction x using PV.casesOn<;>try(cases e3;done)
  dsimp only at e3
  obtain⟨hs,e3⟩:=Bl e3
  obtain⟨e4,e5⟩:=mkE e3
  rw[e4,e5]
  exact Wz (s:={s with heap:=hp1,toks:=tk1}) (tk:=tk1+1+1) hG.ok C1.I C1.S (Fj C1.S rel1 ex) hs fun J J=>rfl
theorem A4x{k:Bool}{es:CEs}(h1:BoOk W G n Φ es)(h2:T4 W G n Φ es):EvOk W G n Φ (.boolE k es)∧TrOk W G n Φ (.boolE k es):=by
 constructor
 ·intro cx e m ρ σ A fr env P η s hk hA C hne
  refine Rn hk fun op vs p=>Ez fun hk1 hk2 hk3=>?_
  ·have hk3:vs≠[]:=by cases vs;exact nf hk3;exact List.cons_ne_nil _ _
   have hk:=And.intro (And.intro (beqE hk1) hk2) hk3
   show wpAny (md W) A (boolOp p op (evalEach vs env)) _ _ s
   exact h1 cx k op p vs ρ σ A fr env P η s hk.1.1 hk.2 hk.1.2 hA C hne
 ·intro cx e ρ σ A fr env P η s hk hA C hne
  refine Rn hk fun op vs p=>Ez fun hk1 hk2 hk3=>?_
  ·have hk3:vs≠[]:=by cases vs;exact nf hk3;exact List.cons_ne_nil _ _
   have hk:=And.intro (And.intro (beqE hk1) hk2) hk3
   show wpAny (md W) A (allTrue op vs env) _ _ s
   exact h2 cx k op vs ρ σ A fr env P η s hk.1.1 hk.1.2 hA C hne
theorem A93:BoOk W G n Φ .nil:=by
 intro cx k op p xs ρ σ A fr env P η s _ hx hk
 induction xs using List.casesOn with
 |nil=>exact absurd rfl hx
 |cons=>exact nf hk
set_option backward.match.sparseCases true in
noncomputable def A2j(op:BoolOp)(t:Bool)(v:Value)(rest:Sem Value):Sem Value:=match op,t with
 |.And,false=>pure v
 |.Or,true=>pure v
 |_,_=>rest
theorem V0{p:Pos}{op:BoolOp}{a b:Sem Value}{r:List (Sem Value)}:boolOp p op (a::b::r)=a>>=fun v=>(standAt p)>>=fun J=>holding [v] (truthy v)>>=fun t=>A2j op t v (boolOp p op (b::r)):=rfl
theorem A56{e:CE}{r:CEs}(h1:EvOk W G n Φ e)(h2:BoOk W G n Φ r):BoOk W G n Φ (.cons e r):=by
 intro cx k op p xs ρ σ A fr env P η s hop hx hk hA C hne
 induction xs using List.casesOn with
 |nil=>exact nf hk
 |cons x xs=>
  have hk:=band hk
  induction xs using List.casesOn with
  |nil=>
   have hr:r=.nil:=by induction r using CEs.casesOn<;>first|rfl|exact nf hk.2
   subst hr
   refine Av (t:=eval x env) (X:=fun v Q J s=>Q v s) (fun J J J J J J x a J=>a _ _ x) C hne (fun h=>toB C h fun h=>h1 cx x false ρ σ A fr env P η s hk.1 hA C h) ?_
   intro b v σ1 hp tk1 P1 η1 _ hf _ _ C1 rel
   cases rel
   refine⟨.v (.bool b),σ1,?_,hp,tk1,P1,η1,rfl,.refl ..,.refl _,C1.I,C1.S,.v (.bool b)⟩
   show(if b=k then _ else _)=_
   by_cases hb:b=k
   ·rw[if_pos hb,hb];rfl
   ·rw[if_neg hb]
  |cons y ys=>
   subst hop
   show wpAny (md W) A (boolOp p op (eval x env::eval y env::evalEach ys env)) _ _ s
   rw[V0]
   refine wpAny_bind ?_
   refine Av (X:=fun v Q E s=>wpAny (md W) A (standAt p>>=fun J=>holding [v] (truthy v)>>=fun t=>A2j op t v (boolOp p op (eval y env::evalEach ys env))) Q E s) (fun J J J J J J x a b=>x1 x a b) C hne (fun h=>toB C h fun h=>h1 cx x false ρ σ A fr env P η s hk.1 hA C h) ?_
   intro b v σ1 hp tk1 P1 η1 _ hf _ _ C1 rel
   cases rel
   refine wpAny_bind (wpAny_standAt (wpAny_bind (wpAny_holding (wpAny_truthy_bool ?_))))
   cases op<;>induction b using Bool.casesOn<;>first
    |exact h2 cx _ _ p (y::ys) ρ σ1 A fr env P1 η1 _ rfl (List.cons_ne_nil _ _) hk.2 hA C1 hf
    |exact okQ rfl (fun E=>wpAny_pure (Ok.here0 C1.I C1.S (.v (.bool _))))
set_option backward.match.sparseCases true in
noncomputable def Wm(op:BoolOp)(rest:Sem Bool)(v:Bool):Sem Bool:=match op,v with
 |.And,false=>pure false
 |.Or,true=>pure true
 |_,_=>rest
theorem all_nil:T4 W G n Φ .nil:=by
 intro cx k op xs ρ σ A fr env P η s hop hk hA C hne
 induction xs using List.casesOn with
 |cons=>exact nf hk
 |nil=>
  subst hop
  exact A6h (b:=Ml op) (σ':=σ) rfl fun E=>wpAny_pure ⟨s.heap,s.toks,P,η,rfl,.refl ..,.refl _,C.I,C.S,by cases op<;>rfl⟩
set_option tactic.hygienic true in
theorem all_cons{e:CE}{r:CEs}(h1:TrOk W G n Φ e)(h2:T4 W G n Φ r):T4 W G n Φ (.cons e r):=by
 intro cx k op xs ρ σ A fr env P η s hop hk hA C hne
 induction xs using List.casesOn with
 |nil=>exact nf hk
 |cons x xs=>
  have hk:=band hk
  subst hop
  have e1:allTrue op (x::xs) env=(isTrue x env (eval x env)>>=fun v=>Wm op (allTrue op xs env) v):=rfl
  have e2:Ar (evBo G.pol Φ ρ (Ml op) (.cons e r) σ)=(Ar (ev G.pol Φ ρ false e σ)).bind fun a=>Ar (if a.1=Ml op then evBo G.pol Φ ρ (Ml op) r a.2 else .ok (.v (.bool a.1),a.2)):=Res.assoc ..
  rw[e2]at hne⊢
  rw[e1]
  refine wpAny_bind ?_
  refine Av (X:=fun v Q E s=>wpAny (md W) A (Wm op (allTrue op xs env) v) Q E s) (fun v Q Q' E E' s x a b=>wpAny_mono x a b) C hne (fun h=>h1 cx x ρ σ A fr env P η s hk.1 hA C h) ?_
  intro b v σ1 hp tk1 P1 η1 _ hf _ _ C1 rel
  cases(rel:v=b)
  cases op<;>induction b using Bool.casesOn<;>first
   |exact h2 cx _ _ xs ρ σ1 A fr env P1 η1 _ rfl hk.2 hA C1 hf
   |exact A6h rfl fun E=>wpAny_pure ⟨hp,tk1,P1,η1,rfl,.refl ..,.refl _,C1.I,C1.S,rfl⟩
set_option tactic.hygienic true in
theorem A8n{c a b:CE}(h1:TrOk W G n Φ c)(h2:EvOk W G n Φ a)(h3:EvOk W G n Φ b):EvOk W G n Φ (.ite c a b):=by
 intro cx e m ρ σ A fr env P η s hk hA C hne
 refine Vw hk fun t x y p=>Ez fun hk1 hk2 hk3=>?_
 refine wpAny_IfExp ?_
 refine Av (X:=fun v Q E s=>if v then wpAny (md W) A (eval x env) Q E s else wpAny (md W) A (eval y env) Q E s) (fun v J J J J J x a b=>by induction v using Bool.casesOn<;>exact x1 x a b) C hne (fun h=>h1 cx t ρ σ A fr env P η s hk1 hA C h) ?_
 intro b' v σ1 hp tk1 P1 η1 _ hf _ _ C1 rel
 cases(rel:v=b')
 induction b' using Bool.casesOn with
 |true=>exact h2 cx x m ρ σ1 A fr env P1 η1 _ hk2 hA C1 hf
 |false=>exact h3 cx y m ρ σ1 A fr env P1 η1 _ hk3 hA C1 hf
theorem A6m{a:CE}(h1:TrOk W G n Φ a):TrOk W G n Φ (.notE a):=by
 intro cx e ρ σ A fr env P η s hk hA C hne
 refine Hq hk fun q x p=>Ae fun hq hk=>?_
 refine A5n hq ?_
 have eq0:Ar (ev G.pol Φ ρ false (.notE a) σ)=(Ar (ev G.pol Φ ρ false a σ)).bind fun q=>.ok (!q.1,q.2):=Res.assoc ..
 rw[eq0]at hne⊢
 refine isTrue_not ?_
 refine Av (X:=fun v Q E s=>Q (!v) s) (fun J J J J J J x a J=>a _ _ x) C hne (fun h=>h1 cx x ρ σ A fr env P η s hk hA C h) ?_
 intro b' v σ1 hp tk1 P1 η1 _ hf _ _ C1 rel
 cases(rel:v=b')
 exact⟨_,_,rfl,hp,tk1,P1,η1,rfl,.refl ..,.refl _,C1.I,C1.S,rfl⟩
set_option tactic.hygienic true in
theorem A6n{c a b:CE}(h1:TrOk W G n Φ c)(h2:TrOk W G n Φ a)(h3:TrOk W G n Φ b):TrOk W G n Φ (.ite c a b):=by
 intro cx e ρ σ A fr env P η s hk hA C hne
 refine Vw hk fun t x y p=>Ez fun hk1 hk2 hk3=>?_
 have eq0:Ar (ev G.pol Φ ρ false (.ite c a b) σ)=(Ar (ev G.pol Φ ρ false c σ)).bind fun q=>Ar (cond q.1 (ev G.pol Φ ρ false a q.2) (ev G.pol Φ ρ false b q.2)):=Res.assoc ..
 rw[eq0]at hne⊢
 refine isTrue_IfExp ?_
 refine Av (X:=fun v Q E s=>if v then wpAny (md W) A (isTrue x env (eval x env)) Q E s else wpAny (md W) A (isTrue y env (eval y env)) Q E s) (fun v J J J J J x a b=>by induction v using Bool.casesOn<;>exact x1 x a b) C hne (fun h=>h1 cx t ρ σ A fr env P η s hk1 hA C h) ?_
 intro b' v σ1 hp tk1 P1 η1 _ hf _ _ C1 rel
 cases(rel:v=b')
 induction b' using Bool.casesOn with
 |true=>exact h2 cx x ρ σ1 A fr env P1 η1 _ hk2 hA C1 hf
 |false=>exact h3 cx y ρ σ1 A fr env P1 η1 _ hk3 hA C1 hf
end
end Mine.Internal
namespace Mine.Internal
open PySem PySem.W PyProof.Rows PySem.SeqAt PySem.MeetsSeq PySem.Calls
variable {W:Wd} {P P':GM} {fr:List Env} {h h':Heap} {η η':List Addr} {σ σ':Sto}
section
variable (W:Wd) (G:Gl) (n:Nat) (Φ:Phi)
inductive RelP(W:Wd):List Cs→List Val→List (Value×Value)→GM→List Addr→Prop
 |nil {P:GM} {η:List Addr}:RelP W [] [] [] P η
 |cons {k:Cs} {ks:List Cs} {x:Val} {xs:List Val} {t:Tok} {v:Value} {vs:List (Value×Value)} {P:GM} {η:List Addr} (r:RV (W:=W) P η x v) (q:RelP W ks xs vs P η):RelP W (k::ks) (x::xs) ((.str (sv k) t,v)::vs) P η
noncomputable def Dr(pos:Pos)(env:Env)(keys:List (Option Expr))(xs:List Expr):List (Sem Value×Sem Value):=
 (keys.zip xs).map fun q=>((match q.1 with|some k=>eval k env|none=>pure .none),do let x←eval q.2 env;standAt pos;pure x)
noncomputable def PrOk(es:CEs):Prop:=∀(cx:Cx) (ks:List Cs) (pos:Pos) (keys:List (Option Expr)) (xs:List Expr) (ρ:PEnv) (σ:Sto) (A:Around) (fr:List Env) (env:Env) (P:GM) (η:List Addr) (s:Shared),Pu ks keys=true→ks.length=xs.length→ckEs G cx es xs=true→AOK A fr n→
 Cur W fr cx env ρ P η σ s.heap→evs G.pol Φ ρ es σ≠.stk→wpAny (md W) A (evalPairs (Dr pos env keys xs)) (QQ W fr P η s (RelP W ks) (evs G.pol Φ ρ es σ)) (EE W fr P s (evs G.pol Φ ρ es σ)) s
noncomputable def TxOk(es:CEs):Prop:=∀(cx:Cx) (xs:List Expr) (ρ:PEnv) (σ:Sto) (A:Around) (fr:List Env) (env:Env) (P:GM) (η:List Addr) (s:Shared) (acc:Cs),ckT G cx es xs=true→AOK A fr n→acc.length+4100*es.len≤200000→
 Cur W fr cx env ρ P η σ s.heap→evT G.pol Φ ρ es σ≠.stk→
 Joins (md W) A (EE W fr P s (evT G.pol Φ ρ es σ)) (evalEach xs env) (sv acc) (QQ W fr P η s (fun(t:Cs) (out:Str) _ _=>out=sv (acc++t)) (evT G.pol Φ ρ es σ)) s
end
section
variable {G:Gl} {n:Nat} {Φ:Phi}
theorem A7o:PrOk W G n Φ .nil:=by
 intro cx ks pos keys xs ρ σ A fr env P η s hkk hl hk hA C hne
 induction xs using List.casesOn with
 |cons=>exact nf hk
 |nil=>
  induction ks using List.casesOn with
  |cons=>simp at hl
  |nil=>
   induction keys using List.casesOn with
   |cons=>exact nf hkk
   |nil=>exact retQ (b:=([]:List Val)) (σ':=σ) rfl fun E=>evalPairs_nil ⟨s.heap,s.toks,P,η,rfl,.refl ..,.refl _,C.I,C.S,.nil⟩
theorem A3m{e:CE}{r:CEs}(h1:EvOk W G n Φ e)(h2:PrOk W G n Φ r):PrOk W G n Φ (.cons e r):=by
 intro cx ks pos keys xs ρ σ A fr env P η s hkk hl hk hA C hne
 induction xs using List.casesOn with
 |nil=>exact nf hk
 |cons x xs=>
  induction ks using List.casesOn with
  |nil=>simp at hl
  |cons k ks=>
   induction keys using List.casesOn with
   |nil=>exact nf hkk
   |cons ke keys=>
    induction ke using Option.casesOn with
    |none=>exact nf hkk
    |some ke=>
     obtain⟨hk0,hkk⟩:=band hkk
     refine Eo hk0 fun c p1 p2 hk0=>Rl hk0 fun J hk0=>?_
     cases beqE hk0
     have hk:=band hk
     show wpAny (md W) A (evalPairs ((eval (.Constant (.str (sv k)) p1 p2) env,do let y←eval x env;standAt pos;pure y)::Dr pos env keys xs)) _ _ s
     refine evalPairs_cons (Constant_str ?_)
     have C':Cur W fr cx env ρ P η σ ({s with toks:=s.toks+1}:Shared).heap:=C
     refine wpAny_bind ?_
     refine wpAny_mono (Q:=fun v s1=>wpAny (md W) A (evalPairs (Dr pos env keys xs)) (fun vs s3=>QQ W fr P η s (RelP W (k::ks)) ((ev G.pol Φ ρ false e σ).bind fun a=>(evs G.pol Φ ρ r a.2).bind fun b=>.ok (a.1::b.1,b.2)) ((.str (sv k) s.toks,v)::vs) s3)
      (EE W fr P s ((ev G.pol Φ ρ false e σ).bind fun a=>(evs G.pol Φ ρ r a.2).bind fun b=>.ok (a.1::b.1,b.2))) s1) ?_ (fun v s1 y=>wpAny_bind (wpAny_standAt (wpAny_pure y))) fun J J y=>y
     refine wpAny_mono (Av (X:=fun v Q E s'=>wpAny (md W) A (evalPairs (Dr pos env keys xs)) (fun vs s2=>Q ((Value.str (sv k) s.toks,v)::vs) s2) E s') (Rel':=fun l vs P η=>∃t,∃v vs',vs=(.str (sv k) t,v)::vs'∧RelP W (k::ks) l vs P η)
      (fun J J J J J J x a b=>wpAny_mono x (fun J J y=>a _ _ y) b) C' hne (fun h=>h1 cx x false ρ σ A fr env P η {s with toks:=s.toks+1} hk.1 hA C' h) ?_) ?_ ?_
     ·intro b v σ1 hp tk1 P1 η1 _ hf _ _ C1 rel
      refine wpAny_mono (h2 cx ks pos keys xs ρ σ1 A fr env P1 η1 _ hkk (by simpa using hl) hk.2 hA C1 (D3 hf)) (fun vs s2 q=>?_) (fun e s2 q=>?_)
      ·refine(let GG:=_;(?_:GG))
       obtain⟨bs,σ2,e2,h',tk,P',η',a1,a2,a3,a4,a5,a6⟩:=q
       refine⟨b::bs,σ2,?_,h',tk,P',η',a1,a2,a3,a4,a5,_,v,vs,rfl,.cons (RV.mono a2.le a3 rel) a6⟩
       dsimp only;rw[e2];rfl
      ·obtain⟨m,e2,o⟩:=q
       refine⟨m,?_,o⟩
       dsimp only;rw[e2];rfl
     ·intro v s1 y
      refine wpAny_mono y (fun vs s3 q=>?_) (fun e s3 q=>q.toks)
      refine(let GG:=_;(?_:GG))
      obtain⟨bs,σ2,e2,h',tk,P',η',a1,a2,a3,a4,a5,t,v',vs',a6,a7⟩:=q
      cases a6
      cases a7 with
      |cons r q=>exact⟨_,σ2,e2,h',tk,P',η',a1,a2,a3,a4,a5,.cons r q⟩
     ·intro e s1 y;exact y.toks
theorem Os{kvs:List (Str×Value)}(h:(kvs.map (·.1)).Nodup)(k:Str)(v:Value):((stored kvs k v).map (·.1)).Nodup:=by
 unfold stored
 split
 ·have:(kvs.map fun kv=>if kv.1=k then(kv.1,v)else kv).map (·.1)=kvs.map (·.1):=by
   rw[List.map_map];apply List.map_congr_left;intro kv _;show(if kv.1=k then(kv.1,v)else kv).1=kv.1;split<;>rfl
  rw[this];exact h
 ·rename_i hn
  rw[List.map_append,List.nodup_append]
  refine⟨h,by simp,fun a ha b hb e=>?_⟩
  simp only[List.map_cons,List.map_nil,List.mem_singleton]at hb
  obtain⟨kv,hkv,rfl⟩:=List.mem_map.mp ha
  exact hn (List.any_eq_true.mpr ⟨kv,hkv,by simp[e,hb]⟩)
theorem Tq{ks:List Cs}:∀{ys:List PV} {us:List Value} {es:List (Cs×PV)} {acc:List (Str×Value)},ks.length=ys.length→Rvs W P ys us→Rvd W P es acc→(acc.map (·.1)).Nodup→
 Rvd W P ((ks.zip ys).foldl (fun es kx=>put kx.1 kx.2 es) es) (merged acc ((ks.map sv).zip us)):=by
 induction ks with
 |nil=>
  intro ys us es acc hl q r _
  cases ys with
  |nil=>cases q;exact r
  |cons=>cases hl
 |cons k ks ih=>
  intro ys us es acc hl q r hn
  cases ys with
  |nil=>cases hl
  |cons y ys=>
   cases q with|cons p q=>
   exact ih (Nat.succ.inj hl) q (Wn (k:=k) p r hn) (Os hn _ _)
theorem Tl{ks:List Cs}{xs:List Val}{vs:List (Value×Value)}(h:RelP W ks xs vs P η):∃us,RVs (W:=W) P η xs us∧Carries (PySem.strKind W.prog W.w) vs ((ks.map sv).zip us)∧ks.length=us.length∧ks.length=vs.length:=by
 induction h with
 |nil=>exact⟨[],.nil,trivial,rfl,rfl⟩
 |cons r q ih=>
  refine(let GG:=_;(?_:GG))
  obtain⟨us,a,b,c,d⟩:=ih
  exact⟨_::us,.cons r a,⟨strKind_is _ _ _ _,rfl,b⟩,congrArg (·+1) c,congrArg (·+1) d⟩
theorem M3:∀{ks:List Cs} {keys:List (Option Expr)} {xs:List Expr} (pos:Pos) (env:Env),Pu ks keys=true→ks.length=xs.length→
 (evalEachOpt keys env).zip ((evalEach xs env).map fun v=>do let x←v;standAt pos;pure x)=(Dr pos env keys xs).map fun p=>(some p.1,p.2)
 |[],[],[],_,_,_,_=>rfl
 |k::ks,o::keys,x::xs,pos,env,h,hl=>by
  obtain⟨h0,h⟩:=band h
  have ih:=M3 (xs:=xs) pos env h (Nat.succ.inj hl)
  exact onSo h0 fun e h0=>Eo h0 fun c p1 p2 h0=>Rl h0 fun t J=>congrArg (List.cons _) ih
 |[],_::_,_,_,_,h,_=>nf h
 |_::_,[],_,_,_,h,_=>nf h
 |[],[],_::_,_,_,_,h=>nomatch h
 |_::_,_::_,[],_,_,_,h=>nomatch h
theorem O4(W:Wd):Obj.IsDictOf (PySem.strKind W.prog W.w) ({cls:=.type "dict",data:=.dict #[]}:Obj) []:=
 ⟨#[],0,⟨rfl,rfl,rfl⟩,rfl,fun e he=>by simp at he,by first|trivial|constructor|exact rfl,by simp⟩
end
end Mine.Internal
namespace Mine.Internal
open PySem PySem.W PyProof.Rows PySem.SeqAt PySem.MeetsSeq PySem.Calls
variable {W:Wd} {P P':GM} {fr:List Env} {h h':Heap} {η η':List Addr} {σ σ':Sto}
section
variable {G:Gl} {n:Nat} {Φ:Phi}
theorem A8p(hG:GlOK W G){ks:List Cs}{es:CEs}(h1:PrOk W G n Φ es):EvOk W G n Φ (.dctE ks es):=by
 intro cx e m ρ σ A fr env P η s hk hA C hne
 have hS:=hG.ok.sys
 refine Zz hk fun keys vals p=>Od fun hk1 hk2 hk3 hk4=>?_
 ·have hk3:=beqE hk3
  have hk4:=decE hk4
  induction ks using List.casesOn with
  |nil=>
   have hv:vals=[]:=by induction vals using List.casesOn with|nil=>rfl|cons=>simp -iota at hk3
   subst hv
   have hkn:keys=[]:=by induction keys using List.casesOn with|nil=>rfl|cons=>exact nf hk1
   subst hkn
   have hes:es=.nil:=by induction es using CEs.casesOn<;>first|rfl|exact nf hk2
   subst hes
   refine okQ (b:=(mkD m [] σ).1) (σ':=(mkD m [] σ).2) rfl fun E=>wpAny_Dict_empty ?_
   exact Ok.push (tk:=s.toks) (A7z hS C.I C.S .nil m (O4 W) (Ah _ _) (Ak _) (Heap.get?_push_size _ rfl))
  |cons k0 ks=>
   have C0:Cur W fr cx env ρ P η σ (s.heap.push ({cls:=.type "dict",data:=.dict #[]}:Obj)):=C.step (Ba (Ah _ _)) (.refl _) (Bg hS C.I (Ah _ _)) C.S
   refine wpAny_Dict_pairs (knd:=PySem.strKind W.prog W.w) (pairs:=Dr p env keys vals) (M3 p env hk1 hk3) ?_ ?_ ?_
   ·induction keys using List.casesOn with
    |nil=>exact nf hk1
    |cons=>induction vals using List.casesOn with
     |nil=>simp -iota at hk3
     |cons=>simp -iota [Dr]
   ·simp -iota only[Dr,List.length_map,List.length_zip];omega
   ·refine wpAny_mono (h1 cx (k0::ks) p keys vals ρ σ A fr env P η {s with heap:=s.heap.push ({cls:=.type "dict",data:=.dict #[]}:Obj)} hk1 hk3 hk2 hA C0 (D3 hne)) (fun vs s1 q=>?_) (fun e s1 q=>?_)
    ·refine(let GG:=_;(?_:GG))
     obtain⟨l,σ1,e1,hp,tk,P1,η1,rfl,st,pr,I1,S1,rel⟩:=q
     obtain⟨us,r1,car,hl1,hl2⟩:=Tl rel
     have hev:ev G.pol Φ ρ m (.dctE (k0::ks) es) σ=Ac ((frzs σ1 l).bind fun q=>if(k0::ks).length=q.1.length∧(k0::ks).length≤15 then some (mkD m (((k0::ks).zip q.1).foldl (fun es kx=>put kx.1 kx.2 es) []) q.2)else none):=Res.bind_at e1
     have hn0:=Ak s.heap
     have hPn:=Ad C.I hn0
     have hg0:(s.heap.push ({cls:=.type "dict",data:=.dict #[]}:Obj)).get? s.heap.objs.size=some {cls:=.type "dict",data:=.dict #[]}:=Heap.get?_push_size _ rfl
     have hP1:P1 s.heap.objs.size=none:=st.none' hPn hg0
     have hg1:hp.get? s.heap.objs.size=some {cls:=.type "dict",data:=.dict #[]}:=by
      obtain⟨sl,e2,k⟩:=st.keep _ _ hg0 hPn
      have nf:∀env∈fr,env.frame≠some s.heap.objs.size:=fun env he hf=>by
       obtain⟨L,m',hL,_,⟨o,_,_,ho,_⟩,_⟩:=C.I.frames env he
       rw[hf]at hL;cases hL
       rw[hn0]at ho;cases ho
      have:=k nf
      rw[e2,this]
     refine⟨(k0::ks).map sv|>.zip us,car,Heap.dictOf_iff.mpr ⟨_,hg1,O4 W⟩,fun h' hd hs=>?_⟩
     rw[hev]at hne⊢
     cases ho:((frzs σ1 l).bind fun q=>if(k0::ks).length=q.1.length∧(k0::ks).length≤15 then some (mkD m (((k0::ks).zip q.1).foldl (fun es kx=>put kx.1 kx.2 es) []) q.2)else none)with
     |none=>rw[ho]at hne;exact absurd rfl hne
     |some z=>
      simp -iota only[Option.bind_eq_some_iff]at ho
      refine(let GG:=_;(?_:GG))
      obtain⟨⟨ys,σ2⟩,e2,e3⟩:=ho
      split at e3
      ·rename_i hlen
       obtain⟨P2,s2,I2,S2,r2⟩:=Ga hS I1 S1 r1 e2
       obtain⟨o',hg',hd'⟩:=Heap.dictOf_iff.mp hd
       have rd:=Tq (W:=W) (es:=[]) (acc:=[]) hlen.1 r2 .nil (by simp -iota)
       have st2:Stp fr P (s.heap.push ({cls:=.type "dict",data:=.dict #[]}:Obj)) P2 hp:=st.trans s2
       have hP2:P2 s.heap.objs.size=none:=s2.none' hP1 hg1
       have hkp:=Ah s.heap ({cls:=.type "dict",data:=.dict #[]}:Obj)
       have kk:∀b o,b≠s.heap.objs.size→hp.get? b=some o→h'.get? b=some o:=fun b o hb e=>(hs.2 b hb).trans e
       have ne_of:∀b o,s.heap.get? b=some o→b≠s.heap.objs.size:=fun b o e q=>by rw[q,hn0]at e;cases e
       have fin:∀g:Gh,GH h' s.heap.objs.size g→Stp fr P s.heap (upd P2 s.heap.objs.size g) h'∧Inv W (upd P2 s.heap.objs.size g) fr h':=by
        intro g hg
        have stF:Stp fr P s.heap (upd P2 s.heap.objs.size g) h':=by
         refine⟨st2.le.trans (Bn (.inl hP2)),fun b hb hb'=>?_,fun b hb=>Kc b (st2.dom b hb),fun b o e hb=>?_⟩
         ·by_cases q:b=s.heap.objs.size
          ·rw[q];exact hn0
          ·rw[B6 q]at hb'
           have:=st2.new b hb hb'
           cases z:s.heap.get? b with
           |none=>rfl
           |some o=>rw[hkp b o z]at this;cases this
         ·obtain⟨sl,e4,k⟩:=st2.keep b o (hkp b o e) hb
          exact⟨sl,kk b _ (ne_of b o e) e4,k⟩
        refine⟨stF,C.I.step stF (fun b u q=>?_) hS⟩
        by_cases x:b=s.heap.objs.size
        ·subst x;rw[Ap]at q;cases q;exact hg
        ·rw[B6 x]at q;exact(I2.gh b u q).keeps fun o e=>kk b o x e
       induction m using Bool.casesOn with
       |false=>
        cases e3
        obtain⟨stF,IF⟩:=fin (.fz o') hg'
        exact⟨_,_,rfl,h',_,_,η1,rfl,stF,pr,IF,S2.mono (Bn (.inl hP2)) (At hP2),.v (.dct (Ap ..) hd' (rd.mono (Bn (.inl hP2))))⟩
       |true=>
        cases e3
        obtain⟨stF,IF⟩:=fin (.mu η1.length o') hg'
        refine⟨_,_,rfl,h',_,_,η1++[s.heap.objs.size],rfl,stF,pr.trans ⟨_,rfl⟩,IF,S2.add (Bn (.inl hP2)) (At hP2) (.dict (Ap ..) hd' (rd.mono (Bn (.inl hP2)))),?_⟩
        show RV _ _ (.h σ2.length) _
        exact .h (by rw[←S2.len];simp -iota)
      ·cases e3
    ·obtain⟨mm,e1,o⟩:=q
     exact⟨mm,Res.bind_ex e1,XQ.trans (Ba (Ah _ _)) C0.I o⟩
end
end Mine.Internal
namespace Mine.Internal
open PySem PySem.W PyProof.Rows PySem.SeqAt PySem.MeetsSeq PySem.Calls
variable {W:Wd} {P P':GM} {fr:List Env} {h h':Heap} {η η':List Addr} {σ σ':Sto}
section
variable {G:Gl} {n:Nat} {Φ:Phi}
theorem Hd{M:Model}{A:Around}{parts:List (Sem Value)}:∀{acc:Str} {K K':Str→Shared→Prop} {E E':Value→Shared→Prop} {s:Shared},Joins M A E parts acc K s→(∀o s',K o s'→K' o s')→(∀e s',E e s'→E' e s')→Joins M A E' parts acc K' s:=by
 induction parts with
 |nil=>
  intro _ _ _ _ _ _ h a _
  exact a _ _ h
 |cons _ _ ih=>
  intro _ _ _ _ _ _ h a b
  exact wpAny_mono h (fun v s1 q=>let⟨y,t,e,hz,r⟩:=q;⟨y,t,e,hz,ih r a b⟩) b
set_option tactic.hygienic true in
theorem Wh{cx:Cx}{e:CE}{r:CEs}{x:Expr}{xs:List Expr}(h:ckT G cx (.cons e r) (x::xs)=true):
 ckT G cx r xs=true∧((∃v p,x=.FormattedValue v (-1) none p∧ckE G cx e v=true)∨∃t p1 p2,x=.Constant (.str (sv t)) p1 p2∧e=.cst (.str t)):=by
 obtain⟨h1,h2⟩:=band h
 refine⟨h2,?_⟩
 cases h0:eFV x (fun v c f=>eNo f (c==(-1)&&ckE G cx e v))with
 |true=>exact .inl (onFV h0 fun v c f p h=>onNo h fun h=>⟨v,p,by rw[beqE (band h).1],(band h).2⟩)
 |false=>
  rw[h0]at h1
  have h1:eCst e (fun y=>ePS y fun t=>H6 x fun c=>eStr c fun s=>s==sv t)=true:=h1
  exact .inr (A9v h1 fun y h1=>onPS h1 fun t h1=>Eo h1 fun c p1 p2 h=>Rl h fun s h=>⟨_,p1,p2,by rw[beqE h],rfl⟩)
theorem Yp{e:CE}(h1:EvOk W G n Φ e){r:CEs}{cx:Cx}{x:Expr}{xs:List Expr}{ρ:PEnv}{A:Around}{env:Env}{s:Shared}(hk:ckT G cx (.cons e r) (x::xs)=true)(hA:AOK A fr n)(C:Cur W fr cx env ρ P η σ s.heap)
 (hne:(ev G.pol Φ ρ false e σ).bind Ko≠.stk):
 wpAny (md W) A (eval x env) (QQ W fr P η s (fun(t:Cs) v P η=>RV (W:=W) P η (.v (.str t)) v∧t.length≤4096) ((ev G.pol Φ ρ false e σ).bind Ko))
  (EE W fr P s ((ev G.pol Φ ρ false e σ).bind Ko)) s∧ckT G cx r xs=true:=by
 refine(let GG:=_;(?_:GG))
 have byForm:∀(v:Expr) (p:Pos),ckE G cx e v=true→wpAny (md W) A (eval (.FormattedValue v (-1) none p) env) (QQ W fr P η s (fun(t:Cs) v P η=>RV (W:=W) P η (.v (.str t)) v∧t.length≤4096) ((ev G.pol Φ ρ false e σ).bind Ko))
  (EE W fr P s ((ev G.pol Φ ρ false e σ).bind Ko)) s:=by
  intro v p hv
  refine wpAny_FormattedValue_plain ?_
  refine Av (X:=fun v Q E s=>wpAny (md W) A (formatField v Str.empty) Q E s) (fun J J J J J J x a b=>wpAny_mono x a b) C hne (fun h=>h1 cx v false ρ σ A fr env P η s hv hA C h) ?_
  intro b v σ1 hp tk1 P1 η1 _ hf _ _ C1 rel
  cases rel with
  |h=>exact absurd rfl hf
  |@v y _ r=>
   refine(let GG:=_;(?_:GG))
   cases q:He y with
   |none=>exact absurd (Res.bind_st (congrArg Ac q)) hf
   |some t=>
    exact retQ (Res.bind_at (congrArg Ac q)) fun E=>wpAny_mono (Xr (s:={s with heap:=hp,toks:=tk1}) C1.I C1.S r q)
     (fun v s' o=>by obtain⟨h',tk,e',P',η',a,b,c,d,f⟩:=o;exact⟨h',tk,P',η',e',a,b,c,d,f,Ip q⟩) fun J J z=>z
 obtain⟨hk2,⟨v,p,rfl,hv⟩|⟨t,p1,p2,rfl,rfl⟩⟩:=Wh hk
 ·exact⟨byForm v p hv,hk2⟩
 ·refine⟨?_,hk2⟩
  refine(let GG:=_;(?_:GG))
  cases q:He (.str t)with
  |none=>exact absurd (Res.bind_st (congrArg Ac q)) hne
  |some t'=>
   have hlen:=Ip q
   have:t'=t:=onIf q fun J q=>(Option.some.inj q).symm
   subst this
   exact retQ (Res.bind_at (congrArg Ac q)) fun E=>Constant_str ⟨s.heap,_,P,η,rfl,.refl ..,.refl _,C.I,C.S,.v (.str _ _),hlen⟩
theorem Yu(a b:Cs):sv a++sv b=sv (a++b):=by show Str.mk (a.toArray++b.toArray)=Str.mk (a++b).toArray;simp
theorem A6k:TxOk W G n Φ .nil:=by
 intro cx xs ρ σ A fr env P η s acc hk hA hb C hne
 induction xs using List.casesOn with
 |cons=>exact nf hk
 |nil=>exact⟨[],σ,rfl,s.heap,s.toks,P,η,rfl,.refl ..,.refl _,C.I,C.S,by simp⟩
theorem A2u{e:CE}{r:CEs}(h1:EvOk W G n Φ e)(h2:TxOk W G n Φ r):TxOk W G n Φ (.cons e r):=by
 intro cx xs ρ σ A fr env P η s acc hk hA hb C hne
 induction xs using List.casesOn with
 |nil=>exact nf hk
 |cons x xs=>
  simp only[CEs.len_c]at hb
  obtain⟨t1,hk2⟩:=Yp h1 hk hA C (D3 hne)
  show wpAny (md W) A (eval x env) _ _ s
  refine wpAny_mono (Av (X:=fun v Q E s'=>∃y t,v=.str y t∧(sv acc++y).length≤sizeLine∧Joins (md W) A E (evalEach xs env) (sv acc++y) Q s') (Rel':=fun(t:Cs) (out:Str) _ _=>out=sv (acc++t))
   (fun J J J J J J x a b=>let⟨y,t,e,hz,j⟩:=x;⟨y,t,e,hz,Hd j a b⟩) C hne (fun J=>t1) ?_) (fun v s' q=>q) (fun e s' q=>q)
  intro b v σ1 hp tk1 P1 η1 _ hf _ _ C1 rel
  refine(let GG:=_;(?_:GG))
  obtain⟨rel,hlen⟩:=rel
  cases rel with
  |v rr=>
   cases rr
   refine⟨_,_,rfl,?_,?_⟩
   ·rw[Yu,Da,List.length_append,sizeLine_eq];exact Nat.le_trans (Nat.add_le_add (Nat.le_trans (Nat.le_add_right ..) hb) hlen) (by decide)
   ·rw[Yu]
    have:=h2 cx xs ρ σ1 A fr env P1 η1 {s with heap:=hp,toks:=tk1} (acc++b) hk2 hA (by rw[List.length_append,Nat.add_assoc];exact Nat.le_trans (Nat.add_le_add_left (by rw[Nat.mul_succ,Nat.add_comm];exact Nat.add_le_add_left (Nat.le_trans hlen (by decide)) _) _) hb) C1 (D3 hf)
    refine Hd this (fun out s' q=>?_) (fun e s' q=>?_)
    ·obtain⟨t,σ2,e2,h',tk,P',η',a1,a2,a3,a4,a5,a6⟩:=q
     refine⟨b++t,σ2,?_,h',tk,P',η',a1,a2,a3,a4,a5,by rw[a6,List.append_assoc]⟩
     dsimp only;rw[e2];rfl
    ·obtain⟨m,e2,o⟩:=q
     refine⟨m,?_,o⟩
     dsimp only;rw[e2];rfl
theorem Wg{cx:Cx}:∀{es:CEs} {xs:List Expr},ckT G cx es xs=true→xs.length=es.len
 |.nil,[],_=>rfl
 |.nil,_::_,h=>nf h
 |.cons e r,[],h=>nf h
 |.cons e r,x::xs,h=>by
  have:ckT G cx r xs=true:=(Wh h).1
  exact congrArg (·+1) (Wg this)
theorem W6{pol:Pol}{ρ:PEnv}{m:Bool}{es:CEs}{t:Cs}(e:evT pol Φ ρ es σ=.ok (t,σ'))(hne:ev pol Φ ρ m (.fstr es) σ≠.stk):small t.length=true∧ev pol Φ ρ m (.fstr es) σ=.ok (.v (.str t),σ'):=by
 have e2:ev pol Φ ρ m (.fstr es) σ=if small t.length=true then .ok (.v (.str t),σ')else .stk:=Res.bind_at e
 by_cases h:small t.length=true
 ·exact⟨h,e2.trans (if_pos h)⟩
 ·exact absurd (e2.trans (if_neg h)) hne
theorem A4u{es:CEs}(hx:TxOk W G n Φ es)(hhead:∀e r,es=.cons e r→EvOk W G n Φ e):EvOk W G n Φ (.fstr es):=by
 intro cx e m ρ σ A fr env P η s hk hA C hne
 refine Zw hk fun vs p=>Ez fun hk1 hk2 hk3=>?_
 ·have hk2:vs≠[]:=by cases vs;exact nf hk2;exact List.cons_ne_nil _ _
  have hk3:=decE hk3
  induction vs using List.casesOn with
  |nil=>exact absurd rfl hk2
  |cons v vs=>
   induction vs using List.casesOn with
   |nil=>
    induction es using CEs.casesOn with
    |nil=>exact nf hk1
    |cons e0 r0=>
     obtain⟨t1,hr⟩:=Yp (hhead e0 r0 rfl) hk1 hA C (by
      intro z;exact hne (Res.bind_st (Res.bind_st z)))
     have:r0=.nil:=by induction r0 using CEs.casesOn<;>first|rfl|exact nf hr
     subst this
     refine wpAny_JoinedStr_one (wpAny_mono t1 (fun v s' q=>?_) (fun e s' q=>?_))
     ·obtain⟨t,σ1,e1,h',tk,P',η',a1,a2,a3,a4,a5,a6,_⟩:=q
      have e3:evT G.pol Φ ρ (.cons e0 .nil) σ=.ok (t,σ1):=(Res.bind_at e1).trans (congrArg (fun u=>Res.ok (u,σ1)) (List.append_nil t))
      obtain⟨_,e4⟩:=W6 e3 hne
      exact⟨_,_,e4,h',tk,P',η',a1,a2,a3,a4,a5,a6⟩
     ·obtain⟨m',e1,o⟩:=q
      exact⟨m',Res.bind_ex (Res.bind_ex e1),o⟩
   |cons v2 vs=>
    refine wpAny_JoinedStr ?_
    have hl:=Wg hk1
    have:=hx cx (v::v2::vs) ρ σ A fr env P η s [] hk1 hA (by simp at hk3 hl⊢;omega) C (D3 hne)
    refine Hd this (fun out s' q=>?_) (fun e s' q=>?_)
    ·obtain⟨t,σ1,e1,h',tk,P',η',rfl,a2,a3,a4,a5,a6⟩:=q
     obtain⟨hs,e4⟩:=W6 e1 hne
     have hs':=Ay hs
     rw[List.nil_append]at a6
     subst a6
     exact⟨by rw[Da,sizeLine_eq];exact Nat.le_trans (by assumption) (by decide),_,_,e4,h',_,P',η',rfl,a2,a3,a4,a5,.v (.str _ _)⟩
    ·obtain⟨m',e1,o⟩:=q
     exact⟨m',Res.bind_ex e1,o⟩
theorem A4t(hG:GlOK W G){k:Mid}{a:CE}{es:CEs}(h1:EvOk W G n Φ a)(h2:Fz W G n Φ es):EvOk W G n Φ (.meth k a es):=by
 intro cx e m ρ σ A fr env P η s hk hA C hne
 refine P9 hk fun o name ap args p=>Wi fun hq hk1 hk2 hk3 hk4 hk5=>?_
 ·have hk3:=decE hk3
  cases beqE hq
  refine G7 hk1 hk2 hk3 (B7 hk5) ?_
  refine Av (X:=fun v Q E s=>∀pl,wpAny (md W) A (getMethod v (midN k) pl) (fun(fx:Value×List Value) s₂=>wpAny (md W) A (callWith p fx.1 fx.2 (backTo p (starEach args env)) []) Q E s₂) E s) (fun J J J J J J x a b pl=>x2 (k:=fun(fx:Value×List Value)=>callWith p fx.1 fx.2 (backTo p (starEach args env)) []) (x pl) a b) C hne (fun h=>h1 cx o false ρ σ A fr env P η s hk4 hA C h) ?_
  intro b v σ1 hp tk1 P1 η1 _ hf _ _ C1 rel pl
  dsimp only at hf⊢
  cases ht:tyOf σ1 b with
  |none=>rw[ht]at hf;exact absurd rfl hf
  |some t=>
   rw[ht]at hf
   dsimp only at hf⊢
   split at hf
   ·rename_i hok
    rw[if_pos hok]
    refine U6 (s:={s with heap:=hp,toks:=tk1}) C1.I C1.S rel ht hok ?_
    refine Ci (P0:=fun J=>True) (B7 hk5) (Cq _) ?_
    refine Av (X:=fun vs Q E s=>True∧wpAny (md W) A (call (.builtin (midS t k)) ([v]++vs)) Q E s) (fun J J J J J J x a b=>⟨x.1,x1 x.2 a b⟩) C1 hf (fun h=>h2 cx args ρ σ1 A fr env P1 η1 _ hk5 hA C1 h) ?_
    intro l vs σ2 hp2 tk2 P2 η2 _ hf2 st2 p2 C2 rel2
    refine⟨trivial,?_⟩
    dsimp only at hf2⊢
    split at hf2
    ·rename_i hty
     rw[if_pos hty]
     refine optQ hf2 fun c σ3 ho E=>?_
     exact A22 (s:={s with heap:=hp2,toks:=tk2}) hG.ok hA C2.I C2.S (RV.mono st2.le p2 rel) rel2 hty hok ho
    ·exact absurd rfl hf2
   ·exact absurd rfl hf
set_option tactic.hygienic true in
theorem A1f(hG:GlOK W G)(hΦ:K3 W G n Φ){f:Nat}{nm:Cs}{a:CE}{es:CEs}(h1:EvOk W G n Φ a)(h2:Fz W G n Φ es):EvOk W G n Φ (.methF f nm a es):=by
 intro cx e m ρ σ A fr env P η s hk hA C hne
 refine P9 hk fun o name ap args p=>Aau fun hq hkm hk1 hk2 hk3 hk4 hk5=>?_
 ·have hk3:=decE hk3
  cases beqE hq
  obtain⟨m1,m2,m3,m4⟩:=hG.meth nm f (List.contains_iff_mem.mp hkm)
  refine G7 hk1 hk2 hk3 (B7 hk5) ?_
  refine Av (X:=fun v Q E s=>∀pl,wpAny (md W) A (getMethod v (sv nm) pl) (fun(fx:Value×List Value) s₂=>wpAny (md W) A (callWith p fx.1 fx.2 (backTo p (starEach args env)) []) Q E s₂) E s) (fun J J J J J J x a b pl=>x2 (k:=fun(fx:Value×List Value)=>callWith p fx.1 fx.2 (backTo p (starEach args env)) []) (x pl) a b) C hne (fun h=>h1 cx o false ρ σ A fr env P η s hk4 hA C h) ?_
  intro b v σ1 hp tk1 P1 η1 _ hf _ _ C1 rel pl
  cases rel with
  |v=>exact absurd rfl hf
  |@h i x ha=>
   dsimp only at hf⊢
   cases q:σ1[i]? with
   |none=>rw[q]at hf;exact absurd rfl hf
   |some po=>
    rw[q]at hf
    have ro:=C1.S.obj i x po ha q
    cases ro with
    |list=>exact absurd rfl hf
    |dict=>exact absurd rfl hf
    |dictl=>exact absurd rfl hf
    |froz=>exact absurd rfl hf
    |inst g1 i1 n1 g2 f1=>
     rename_i c fs oo od d
     have hc:c=1:=by
      by_cases hc:c=1
      ·exact hc
      ·exfalso;apply hf
       rcases c with _|_|c
       ·rfl
       ·exact absurd rfl hc
       ·rfl
     subst hc
     change(if(look nm fs).isNone=true then(evs G.pol Φ ρ es σ1).bind fun q=>Φ f (.h i::q.1) q.2 else Res.stk)≠Res.stk at hf
     change wpAny (md W) A (getMethod (Value.ref x) (sv nm) pl) (fun fx s₂=>wpAny (md W) A (callWith p fx.1 fx.2 (backTo p (starEach args env)) []) (QQ W fr P1 η1 {s with heap:=hp,toks:=tk1} (RelV W) (if(look nm fs).isNone=true then(evs G.pol Φ ρ es σ1).bind fun q=>Φ f (.h i::q.1) q.2 else Res.stk)) (EE W fr P1 {s with heap:=hp,toks:=tk1} (if(look nm fs).isNone=true then(evs G.pol Φ ρ es σ1).bind fun q=>Φ f (.h i::q.1) q.2 else Res.stk)) s₂) (EE W fr P1 {s with heap:=hp,toks:=tk1} (if(look nm fs).isNone=true then(evs G.pol Φ ρ es σ1).bind fun q=>Φ f (.h i::q.1) q.2 else Res.stk)) _
     by_cases hlk:(look nm fs).isNone=true
     ·rw[if_pos hlk]at hf⊢
      have hno:look nm fs=none:=by simpa using hlk
      obtain⟨es',ep,mm,d1,d2,d3,d4,d5,d6⟩:=f1
      have hnc:=J1 i1.2.2
      have IA:PySem.W.InstAt hp x oo (W.cls 1) (some od):=⟨C1.I.gh _ _ g1,i1.1,hnc,by rw[i1.2.1];exact C1.I.gh _ _ g2⟩
      refine method_fn (s:={s with heap:=hp,toks:=tk1}) (Inv.K hG.ok C1.I) IA (plainGet_of m1).1 (plainGet_of m1).2 m2 m3 ?_ ?_
      ·show Option.map _ (lookIn (sv nm) od)=_
       rw[J5 d1 d2 d4,d5 nm hno];rfl
      ·refine Ci (P0:=fun h=>W.K.In h) (B7 hk5) (keeps_K (hG.keepF f m4)) ?_
       refine Av (X:=fun vs Q E s=>W.K.In s.heap∧wpAny (md W) A (call (.ref (W.fns f)) ([.ref x]++vs)) Q E s) (fun J J J J J J x a b=>⟨x.1,x1 x.2 a b⟩) C1 hf (s:={s with heap:=hp,toks:=tk1}) (fun h=>h2 cx args ρ σ1 A fr env P1 η1 {s with heap:=hp,toks:=tk1} hk5 hA C1 h) ?_
       intro l vs σ2 hp2 tk2 P2 η2 _ hf2 st2 p2 C2 rel2
       refine⟨Inv.K hG.ok C2.I,wpAny_call (codeAny_mono (hΦ f (.h i::l) (.ref x::vs) σ2 P2 η2 fr A {s with heap:=hp2,toks:=tk2} m4 hA.w C2.I C2.S (.cons (.h (p2.get ha)) rel2) hf2) fun rr s' z=>?_)⟩
       cases rr with
       |error e=>exact z
       |ok fl=>cases fl<;>first|exact z|exact z.elim
     ·rw[if_neg hlk]at hf;exact absurd rfl hf
end
end Mine.Internal
namespace Mine.Internal
open PySem PySem.W PyProof.Rows PySem.SeqAt PySem.MeetsSeq PySem.Calls
variable {W:Wd} {P P':GM} {fr:List Env} {h h':Heap} {η η':List Addr} {σ σ':Sto}
section
variable {G:Gl} {n:Nat} {Φ:Phi}
theorem A7b{o k:Val}{x:PV}{σ σ3:Sto}(e:sdApp o k x σ=some σ3):∃i c,o=.h i∧k=.v (.str c):=
 onVH e fun i e=>onVV e fun y e=>Fk e fun c J=>⟨i,c,rfl,rfl⟩
theorem A1e(hG:GlOK W G){a k:CE}{d i:Nat}(h1:EvOk W G n Φ a)(h2:EvOk W G n Φ k):EvOk W G n Φ (.sdApp a k d i):=by
 intro cx e m ρ σ A fr env P η s hk hA C hne
 refine onSd hk fun o' n1 ap k' lp p n2 ap2 x p2=>Aat fun q1 q2 hk1 hk2 hk3 hk4 hk5 hk6 hk7=>Js q1 (Js q2 ?_)
 ·obtain⟨nm,np,rfl,hl,hn⟩:=Rx hk7
  have star1:starEach [.Name nm np] env=[(.Name nm np:Expr)].map fun x=>(false,eval x env):=rfl
  have star2:starEach [k',.List [] lp] env=[k',.List [] lp].map fun x=>(false,eval x env):=Nf hk4
  refine G7 (o:=.Call (.Attribute o' (Str.ofString "setdefault") ap) [k',.List [] lp] [] p) rfl hk3 (by simp) star1 ?_
  refine G7 hk1 hk2 (by simp) star2 ?_
  refine Av (X:=fun v Q E s=>∀pl,wpAny (md W) A (getMethod v (Str.ofString "setdefault") pl) (fun(fx:Value×List Value) s₂=>wpAny (md W) A (callWith p fx.1 fx.2 (backTo p (starEach [k',.List [] lp] env)) [])
   (fun ov s₃=>∀pl,wpAny (md W) A (getMethod ov (midN .append) pl) (fun(fx:Value×List Value) s₄=>wpAny (md W) A (callWith p2 fx.1 fx.2 (backTo p2 (starEach [.Name nm np] env)) []) Q E s₄) E s₃) E s₂) E s)
   (fun J J J J J J x a b pl=>wpAny_mono (x pl) (fun J J y=>wpAny_mono y (fun J J z pl=>wpAny_mono (z pl) (fun J J u=>wpAny_mono u a b) b) b) b) C hne (fun h=>h1 cx o' false ρ σ A fr env P η s hk5 hA C h) ?_
  intro b v σ1 hp tk1 P1 η1 _ hf _ _ C1 rel pl
  dsimp only at hf⊢
  cases hz:getV ρ d i with
  |none=>rw[hz]at hf;exact absurd rfl hf
  |some z=>
   rw[hz]at hf
   induction z using Val.casesOn with
   |h=>exact absurd rfl hf
   |v x=>
    dsimp only at hf⊢
    by_cases hty:tyOf σ1 b=some .dict
    ·rw[if_pos hty]at hf⊢
     obtain⟨hT,hd⟩:=A5b (hs:={s with heap:=hp,toks:=tk1}) C1.I C1.S rel hty
     refine getMethod_builtin hT F.plainAttrs_dict F.slot_dict_setdefault F.type_dict_setdefault hd ?_
     refine Ci (P0:=fun J=>True) star2 (Cq _) ?_
     refine spliced_cons ?_
     refine Av (X:=fun kv Q E s=>wpAny (md W) A (spliced [(false,eval (.List [] lp) env)]) (fun vs s2=>True∧wpAny (md W) A (call (.builtin "dict.setdefault") ([v]++kv::vs))
      (fun ov s₃=>∀pl,wpAny (md W) A (getMethod ov (midN .append) pl) (fun(fx:Value×List Value) s₄=>wpAny (md W) A (callWith p2 fx.1 fx.2 (backTo p2 (starEach [.Name nm np] env)) []) Q E s₄) E s₃) E s2) E s)
      (fun J J J J J J x a b=>wpAny_mono x (fun J J y=>⟨y.1,wpAny_mono y.2 (fun J J z pl=>wpAny_mono (z pl) (fun J J u=>wpAny_mono u a b) b) b⟩) b) (s:={s with heap:=hp,toks:=tk1}) C1 hf
      (fun h=>h2 cx k' false ρ σ1 A fr env P1 η1 {s with heap:=hp,toks:=tk1} hk6 hA C1 h) ?_
     intro kb kv σ2 hp2 tk2 P2 η2 _ hf2 st2 pr2 C2 rel2
     dsimp only at hf2⊢
     refine spliced_cons (List_ (spliced_nil (wpAny_newList ?_ (by rw[sizeLine_eq];simp))))
     refine spliced_nil ⟨trivial,?_⟩
     cases hsd:sdApp b kb x σ2 with
     |none=>rw[hsd]at hf2;exact absurd rfl hf2
     |some σ3=>
      refine(let GG:=_;(?_:GG))
      obtain⟨bi,kk,rfl,rfl⟩:=A7b hsd
      obtain@⟨ba,hba⟩:=rel.inv
      obtain⟨kt,rfl⟩:=Rv.inv rel2.inv
      ··refine wpAny_mono (A9g (s:={s with heap:=hp2,toks:=tk2}) (tk0:=tk2) (t:=kt) hG.ok C2.I C2.S (pr2.get hba) ⟨x,σ3,hsd⟩) (fun lv s3 q=>?_) (fun J J z=>z)
        obtain⟨lb,items,ep,h3,tk3,rfl,rfl,hg3,keep3,fin3⟩:=q
        intro pl2
        have hT3:Shared.TypeIs ({s with heap:=h3,toks:=tk3}:Shared) (.ref lb) "list":=⟨_,hg3,rfl⟩
        refine getMethod_builtin (s:={s with heap:=h3,toks:=tk3}) hT3 F.plainAttrs_list F.slot_list_append F.type_list_append (fun a' q=>by cases q;exact⟨_,hg3,rfl⟩) ?_
        refine Ci (P0:=fun J=>True) star1 (Cq _) ?_
        have st3:Stp fr P2 hp2 P2 h3:=⟨.refl _,fun J a b=>absurd a b,fun J h=>h,fun c oc e hc=>⟨oc.slots,keep3 c oc e hc,fun J=>rfl⟩⟩
        have R3:EnvR W cx env P2 η2 ({s with heap:=h3,toks:=tk3}:Shared).heap ρ:=C2.R.step st3 (.refl _)
        refine spliced_cons (wpAny_Name (Fp R3 hl hn hz fun u ru=>spliced_nil ⟨trivial,?_⟩) (by simp only[Bu,Bool.and_eq_true,Bool.not_eq_true']at hn;exact hn.1))
        refine(let GG:=_;(?_:GG))
        cases ru with
        |v ru=>
         obtain⟨hlen,ok3⟩:=fin3 x u σ3 tk3 ru hsd
         refine call_meets (s:={s with heap:=h3,toks:=tk3}) F.slot_list_append hT3 F.entry_list_append (F.args_list_append_2 _ _) (list_append _ items.toArray ep _ (by simp only[List.size_toArray];rw[sizeLine_eq];omega)) ⟨hg3,?_⟩
         exact⟨_,_,rfl,ok3.toG⟩
    ·rw[if_neg hty]at hf;exact absurd rfl hf
noncomputable def Ix(nm:String):Bool:=["enumerate","zip","dict_itemiterator","dict_reverseitemiterator","odict_iterator","itertools.zip_longest","itertools.pairwise"].contains nm
inductive IterAt(W:Wd)(P:GM)(A:Around)(h0:Heap)(xs:List PV)(it:Value)(s2:Heap):Prop
 |mk:∀I fp Pw St,it=.ref I→Walks W.prog W.w A I fp [I] xs.length Pw St→St 0 s2→(∀b∈fp,b=I∨∃o,P b=some (.fz o))→h0.get? I=none→I∈fp→(∀j hj,St j hj→∃oI,hj.get? I=some oI∧∃nm,oI.cls=.type nm∧Ix nm=false)→
  (∀b o,h0.get? b=some o→s2.get? b=some o)→(∀i v,i<xs.length→Pw i v→∃x,xs[i]?=some x∧Rv W P x v)→IterAt W P A h0 xs it s2
theorem Xe{a b c:Int}(hc:0<c)(ha:bnd a=true)(hb:bnd b=true)(hcb:bnd c=true):Builtin.Range.small a b c=true:=by
 have ha:=Eu ha
 have hb:=Eu hb
 have hcb:=Eu hcb
 have hlen:=Vm hc ha.1 hb.2
 have hsz:=Kh (a:=a) (b:=b) hc
 unfold Builtin.Range.small
 rw[hsz]
 have h0:c>0:=hc
 simp only[h0,if_true,Builtin.Range.rangeFitsLong,Bool.and_eq_true,Bool.or_eq_true,decide_eq_true_eq]
 refine⟨⟨⟨⟨?_,?_⟩,?_⟩,?_⟩,.inr ?_⟩<;>constructor<;>omega
set_option tactic.hygienic true in
theorem Pi{A:Around}{E:Value→Shared→Prop}{s:Shared}{x:PV}{v:Value}{xs:List PV}{Q:Value→Shared→Prop}(hA:AOK A fr n)(I:Inv W P fr s.heap)(r:Rv W P x v)(e:Az x=some xs)
 (h:∀it s2,(∃o,s2={s with heap:=s.heap.push o})→IterAt W P A s.heap xs it s2.heap→Q it s2):wpAny (md W) A (pyIter v) Q E s:=by
 have hn:=Ak s.heap
 cases r<;>first|exact nfo e|skip
 ·rename_i ra a b c t u w hp
  obtain⟨hc,rfl⟩:=Bl e
  simp only[Bool.and_eq_true,decide_eq_true_eq]at hc
  obtain⟨⟨⟨h0,h1⟩,h2⟩,h3⟩:=hc
  refine wpAny_pyIter_range (I.gh _ _ hp) (Xe h0 h1 h2 h3) (h _ _ ⟨_,rfl⟩ ?_)
  have hl:(rngL a b c).length=rngN a b c:=by simp[rngL]
  refine⟨s.heap.objs.size,[s.heap.objs.size],_,_,rfl,hl▸Walks.range hA.handled s.heap.objs.size a c (rngN a b c),?_,fun b' hb=>.inl (by simpa using hb),hn,by simp,(fun J J q=>⟨_,q,_,rfl,by decide⟩),Ah _ _,fun i v hi hv=>?_⟩
  ·show IsRangeIter _ _ _ _ _
   have e1:a+((0:Nat):Int)*c=a:=by simp
   have e2:((rngN a b c:Nat):Int)-((0:Nat):Int)=Builtin.Range.rangeSize a b c:=by rw[Kh h0];simp
   rw[hl,e1,e2]
   exact Heap.get?_push_size _ rfl
  ·obtain⟨tk,rfl⟩:=hv
   rw[hl]at hi
   refine⟨.int (a+(i:Int)*c),?_,.int _ _⟩
   simp[rngL,hi]
 ·rename_i ra o vs ys hp tt rr
  cases e
  obtain⟨nn,rfl⟩:=tt
  have hg:s.heap.get? ra=some _:=I.gh _ _ hp
  have ht:s.heap.IsTuple ra vs.toArray:=⟨_,hg,rfl,nn,rfl⟩
  have hne:ra≠s.heap.objs.size:=by rintro rfl;rw[hn]at hg;cases hg
  refine wpAny_pyIter_tuple ht (h _ _ ⟨_,rfl⟩ ?_)
  refine⟨s.heap.objs.size,[s.heap.objs.size,ra],_,_,rfl,(by rw[rr.length,←List.size_toArray];exact Walks.tuple hA.handled s.heap.objs.size ra hne vs.toArray),?_,fun b' hb=>?_,hn,by simp,(fun J J q=>by exact q.1.imp fun J e=>⟨e.1,_,e.2.1,by decide⟩),Ah _ _,fun i v hi hv=>?_⟩
  ·exact⟨⟨_,Heap.get?_push_size _ rfl,rfl,rfl⟩,_,Heap.get?_push_of_some _ hg,rfl,nn,rfl⟩
  ·simp only[List.mem_cons,List.not_mem_nil,or_false]at hb
   rcases hb with rfl|rfl
   ·exact .inl rfl
   ·exact .inr ⟨_,hp⟩
  ·obtain⟨u,e1,e2⟩:=rr.get (List.getElem?_eq_getElem hi)
   refine⟨_,List.getElem?_eq_getElem hi,?_⟩
   have hv':vs.toArray[i]?=some v:=hv
   simp only[List.getElem?_toArray]at hv'
   rw[e1]at hv';cases hv';exact e2
 ·rename_i ra vs nn ys hp rr
  cases e
  have hg:s.heap.get? ra=some (lob vs nn):=I.gh _ _ hp
  have hl:s.heap.IsList ra vs.toArray:=⟨_,hg,rfl,nn,rfl⟩
  have hne:ra≠s.heap.objs.size:=by rintro rfl;rw[hn]at hg;cases hg
  refine wpAny_pyIter_list hl (h _ _ ⟨_,rfl⟩ ?_)
  refine⟨s.heap.objs.size,[s.heap.objs.size,ra],_,_,rfl,(by rw[rr.length,←List.size_toArray];exact Walks.list hA.handled s.heap.objs.size ra hne vs.toArray),?_,fun b' hb=>?_,hn,by simp,(fun J J q=>by exact q.1.imp fun J e=>⟨e.1,_,e.2.1,by decide⟩),Ah _ _,fun i v hi hv=>?_⟩
  ·exact⟨⟨_,Heap.get?_push_size _ rfl,rfl,rfl⟩,_,Heap.get?_push_of_some _ hg,rfl,nn,rfl⟩
  ·simp only[List.mem_cons,List.not_mem_nil,or_false]at hb
   rcases hb with rfl|rfl
   ·exact .inl rfl
   ·exact .inr ⟨_,hp⟩
  ·obtain⟨u,e1,e2⟩:=rr.get (List.getElem?_eq_getElem hi)
   refine⟨_,List.getElem?_eq_getElem hi,?_⟩
   have hv':vs.toArray[i]?=some v:=hv
   simp only[List.getElem?_toArray]at hv'
   rw[e1]at hv';cases hv';exact e2
end
end Mine.Internal
namespace Mine.Internal
open PySem PySem.W PyProof.Rows PySem.SeqAt PySem.MeetsSeq PySem.Calls
variable {W:Wd} {P P' P0:GM} {fr:List Env} {h h' h0:Heap} {η η':List Addr} {σ σ':Sto}
theorem Bi(st:Stp fr P0 h0 P h){b:Addr}(hb:h0.get? b=none)(x:Heap.ExtBut b h h'):Stp fr P0 h0 P h' where
 le:=st.le
 new:=st.new
 dom:=st.dom
 keep:=fun a o e hp=>by
  obtain⟨sl,e1,k⟩:=st.keep a o e hp
  exact⟨sl,x a _ (by rintro rfl;rw[hb]at e;cases e) e1,k⟩
theorem Bj(I:Inv W P fr h){b:Addr}(hb:P b=none)(hW:W.base.get? b=none)(nf:∀env∈fr,env.frame=some b→∃m,h'.Ns b m)(x:Heap.ExtBut b h h'):Inv W P fr h' where
 gh:=fun a g e=>(I.gh a g e).keeps fun o q=>x a o (by rintro rfl;rw[hb]at e;cases e) q
 base:=fun a o e=>by
  obtain⟨e1,q⟩:=I.base a o e
  exact⟨x a o (by rintro rfl;rw[hW]at e;cases e) e1,q⟩
 sys:=I.sys
 frames:=fun env he=>by
  obtain⟨L,m,a,c,d,e,f⟩:=I.frames env he
  by_cases q:L=b
  ·subst q
   obtain⟨m',hm⟩:=nf env he a
   exact⟨L,m',a,c,hm,e,f⟩
  ·exact⟨L,m,a,c,d.at' fun o z=>x L o q z,e,f⟩
theorem Bc(I:Inv W P0 fr h0){b:Addr}(hb:h0.get? b=none):W.base.get? b=none:=by
 cases e:W.base.get? b with
 |none=>rfl
 |some o=>have:=(I.base b o e).1;rw[hb]at this;cases this
theorem Cb(I:Inv W P0 fr h0){b:Addr}(hb:h0.get? b=none):∀env∈fr,env.frame≠some b:=fun env he hf=>by
 obtain⟨L,m,a,_,⟨o,_,_,ho,_⟩,_⟩:=I.frames env he
 rw[hf]at a;cases a
 rw[hb]at ho;cases ho
theorem G5{cx:Cx}{env:Env}{ρ:PEnv}(R:EnvR W cx env P η h ρ){b:Addr}(x:Heap.ExtBut b h h')(h1:env.locals≠b)(h2:∀y c,env.cells.lookup y=some c→c≠b):EnvR W cx env P η h' ρ where
 kind:=R.kind
 glob:=R.glob
 blt:=R.blt
 names:=R.names
 ns:=let⟨m,hn⟩:=R.ns;⟨m,hn.at' fun o e=>x _ o h1 e⟩
 locP:=R.locP
 locB:=R.locB
 inj:=R.inj
 vars:=fun y d i e=>by
  rcases R.vars y d i e with⟨hk,m,hn,ho⟩|⟨hk,c,u,hc,⟨oc,e1,e2⟩,hp,hb,ho⟩
  ·exact .inl ⟨hk,m,hn.at' fun o e=>x _ o h1 e,ho⟩
  ·exact .inr ⟨hk,c,u,hc,⟨oc,x c oc (h2 y c hc) e1,e2⟩,hp,hb,ho⟩
theorem stay(st:Stp fr P h P' h'){b:Addr}{o:Obj}(hp:P b=none)(e:h.get? b=some o)(nf:∀env∈fr,env.frame≠some b):h'.get? b=some o∧P' b=none:=by
 obtain⟨sl,e1,k⟩:=st.keep b o e hp
 rw[k nf]at e1
 exact⟨e1,st.none' hp e⟩
theorem S0{ρ:PEnv}{i d j:Nat}{z:Val}(hi:∃r rs,ρ=r::rs∧i<r.length):getV (setV ρ i z) d j=if d=0∧j=i then some z else getV ρ d j:=by
 obtain⟨r,rs,rfl,hi⟩:=hi
 induction d using Nat.casesOn with
 |succ d=>simp[setV,getV]
 |zero=>
  by_cases q:j=i
  ·subst q;simp[setV,getV,hi]
  ·have q':i≠j:=fun e=>q e.symm
   simp[setV,getV,q,List.getElem?_set_ne q']
theorem A5a{a:Addr}{m m':Str→Option Value}(x:h.Ns a m)(y:h.Ns a m'):∀k,m k=m' k:=by
 refine(let GG:=_;(?_:GG))
 obtain⟨o,es,ep,e1,e2,e3,e5⟩:=x
 obtain⟨o',es',ep',f1,f2,f3,f5⟩:=y
 rw[e1]at f1;cases f1
 rw[e2]at f2;cases f2
 intro k;rw[←e5,←f5]
theorem Km{a:Addr}{m:Str→Option Value}{u:Option Value}(x:h.Ns a m)(y:h.IsCell a u):False:=by
 obtain⟨o,es,ep,e1,e2,_⟩:=x
 obtain⟨o',f1,f2⟩:=y
 rw[e1]at f1;cases f1
 rw[e2]at f2;cases f2
section
variable {A:Around} {s:Shared} {cx:Cx} {env:Env} {ρ:PEnv} {E:Value→Shared→Prop} {M:Model}
theorem Nd(R:EnvR W cx env P η s.heap ρ)(I:Inv W P fr s.heap){x:Str}{i:Nat}{z:Val}{v:Value}{Q:Unit→Shared→Prop}(hl:cx.tbl.lookup x=some (0,i))(inj:∀y,cx.tbl.lookup y=some (0,i)→y=x)
 (hkd:cx.names.lookup x=some .local∨cx.names.lookup x=some .cell) (hi:∃r rs,ρ=r::rs∧i<r.length) (rv:RV (W:=W) P η z v)
 (hQ:∀h' tk b,(b=env.locals∨(env.cells.lookup x=some b∧cx.names.lookup x=some .cell))→Heap.SameBut b s.heap h'→EnvR W cx env P η h' (setV ρ i z)→Inv W P fr h'→Q () {s with heap:=h',toks:=tk}):
 wpAny M A (storeName env x v) Q E s:=by
 have hkx:env.kindOf x=cx.names.lookup x:=by show env.scope.names.lookup x=_;rw[R.names]
 have hp:(env.scope.kind==.class||(env.scope.kind==.module&&env.locals !=env.globals))=false:=by rw[R.kind];rfl
 obtain⟨m,hm⟩:=R.ns
 have fresh:∀y d j,cx.tbl.lookup y=some (d,j)→y≠x→getV (setV ρ i z) d j=getV ρ d j:=fun y d j e hy=>by
  rw[S0 hi,if_neg]
  rintro⟨rfl,rfl⟩
  exact hy (inj y e)
 have self:getV (setV ρ i z) 0 i=some z:=by rw[S0 hi,if_pos ⟨rfl,rfl⟩]
 rcases hkd with hkd|hkd
 ·rw[hkd]at hkx
  refine wpAny_storeName_local hkx hm (fun h' hn hs=>?_) hp
  refine hQ h' _ env.locals (.inl rfl) hs ?_ (Bj I R.locP R.locB (fun J J J=>⟨_,hn⟩) hs.extBut)
  refine⟨R.kind,R.glob,R.blt,R.names,⟨_,hn⟩,R.locP,R.locB,R.inj,fun y d j e=>?_⟩
  by_cases hy:y=x
  ·subst hy
   rw[hl]at e;cases e
   exact .inl ⟨hkx,_,hn,by rw[self];simpa -iota [OVR]using rv⟩
  ·rw[fresh y d j e hy]
   rcases R.vars y d j e with⟨hk,m2,hn2,ho⟩|⟨hk,c,u,hc,hic,hp,hb,ho⟩
   ·refine .inl ⟨hk,_,hn,?_⟩
    simp -iota only[hy,if_false]
    rw[A5a hm hn2 y];exact ho
   ·exact .inr ⟨hk,c,u,hc,hic.sameBut hs (by rintro rfl;exact Km hm hic),hp,hb,ho⟩
 ·have hkd':=hkd
  rw[hkd]at hkx
  rcases R.vars x 0 i hl with⟨hk,_⟩|⟨_,c,u,hc,hic,hpc,hbc,_⟩
  ·rw[hkx]at hk;cases hk
  ·refine wpAny_storeName_cell R.kind hkx hc hic (fun h' hc' hs=>?_)
   have hLc:env.locals≠c:=by rintro rfl;exact Km hm hic
   refine hQ h' _ c (.inr ⟨hc,hkd'⟩) hs ?_ (Bj I hpc hbc (fun e he hf=>?_) hs.extBut)
   ·refine⟨R.kind,R.glob,R.blt,R.names,⟨_,hm.at' fun o e=>hs.extBut _ o hLc e⟩,R.locP,R.locB,R.inj,fun y d j e=>?_⟩
    by_cases hy:y=x
    ·subst hy
     rw[hl]at e;cases e
     exact .inr ⟨.inl hkx,c,_,hc,hc',hpc,hbc,by rw[self];exact rv⟩
    ·rw[fresh y d j e hy]
     rcases R.vars y d j e with⟨hk,m2,hn2,ho⟩|⟨hk,c2,u2,hc2,hic2,hp2,hb2,ho⟩
     ·exact .inl ⟨hk,m2,hn2.at' fun o e=>hs.extBut _ o hLc e,ho⟩
     ·exact .inr ⟨hk,c2,u2,hc2,hic2.sameBut hs (by rintro rfl;exact hy (R.inj y x _ hc2 hc)),hp2,hb2,ho⟩
   ·obtain⟨L,m3,a,_,hn3,_⟩:=I.frames e he
    rw[hf]at a;cases a
    exact(Km hn3 hic).elim
end
theorem Ob(names:List (Str×NameKind)):∀(h:Heap) (acc:List (Str×Addr)) (y:Str) (c:Addr),(y,c)∈cellsFrom h.objs.size names acc→(y,c)∈acc∨((y,NameKind.cell)∈names∧h.objs.size≤c∧(pushCells h names).IsCell c none):=by
 induction names with
 |nil=>
  intro _ _ _ _ m
  exact .inl m
 |cons zz r ih=>
  obtain⟨nm,k⟩:=zz
  intro h acc y c m
  unfold cellsFrom at m
  unfold pushCells
  split at m
  ·rename_i hk
   rw[if_pos hk]
   have:=ih (h.push {cls:=.type "cell",data:=.cell none}) ((nm,h.objs.size)::acc) y c (by rw[Heap.size_push];exact m)
   rcases this with q|⟨q1,q2,q3⟩
   ·rcases List.mem_cons.mp q with e|q
    ·cases e
     refine .inr ⟨by rw[←(beq_iff_eq.mp hk)];exact List.mem_cons_self,Nat.le_refl _,?_⟩
     exact⟨_,pushCells_keeps _ _ _ _ (Heap.get?_push_size _ rfl),rfl⟩
    ·exact .inl q
   ·rw[Heap.size_push]at q2
    exact .inr ⟨List.mem_cons_of_mem _ q1,by omega,q3⟩
  ·rename_i hk
   rw[if_neg hk]
   rcases ih h acc y c m with q|⟨q1,q2,q3⟩
   ·exact .inl q
   ·exact .inr ⟨List.mem_cons_of_mem _ q1,q2,q3⟩
theorem Eb:∀(names:List (Str×NameKind)) (n:Nat) (acc:List (Str×Addr)) (y:Str),((y,NameKind.cell)∈names∨∃c,(y,c)∈acc)→∃c,(y,c)∈cellsFrom n names acc
 |[],_,_,_,m=>by rcases m with m|m;·cases m
                 ·exact m
 |(nm,k)::r,n,acc,y,m=>by
  unfold cellsFrom
  split
  ·refine Eb r _ _ y ?_
   rcases m with m|⟨c,m⟩
   ·rcases List.mem_cons.mp m with e|m
    ·cases e;exact .inr ⟨_,List.mem_cons_self⟩
    ·exact .inl m
   ·exact .inr ⟨c,List.mem_cons_of_mem _ m⟩
  ·rename_i hk
   refine Eb r _ _ y ?_
   rcases m with m|m
   ·rcases List.mem_cons.mp m with e|m
    ·cases e;exact absurd rfl hk
    ·exact .inl m
   ·exact .inr m
theorem Cy{α:Type}:∀{l:List (Str×α)} {n:Str} {c:α},(n,c)∈l→∃d,l.lookup n=some d
 |(k,v)::r,n,c,h=>by
  rw[List.lookup_cons]
  cases hb:n==k with
  |true=>exact⟨_,rfl⟩
  |false=>
   rcases List.mem_cons.mp h with e|h
   ·cases e;simp -iota at hb
   ·exact Cy h
noncomputable def Bp(env:Env):List (Str×NameKind)→List (Str×Addr)→List (Str×Addr)
 |[],acc=>acc
 |(n,k)::r,acc=>if k==.free then Bp env r ((n,(env.cells.lookup n).getD 0)::acc)else Bp env r acc
theorem Me{env:Env}{n:Str}{k:NameKind}{r:List (Str×NameKind)}{acc:List (Str×Addr)}:Bp env ((n,k)::r) acc=if k==.free then Bp env r ((n,(env.cells.lookup n).getD 0)::acc)else Bp env r acc:=rfl
theorem A8y(env:Env)(names:List (Str×NameKind)):∀(acc:List (Str×Addr)) (y:Str) (c:Addr),(y,c)∈Bp env names acc→(y,c)∈acc∨((y,NameKind.free)∈names∧c=(env.cells.lookup y).getD 0):=by
 induction names with
 |nil=>
  intro _ _ _ m
  exact .inl m
 |cons zz r ih=>
  obtain⟨nm,k⟩:=zz
  intro acc y c m
  rw[Me]at m
  split at m
  ·rename_i hk
   rcases ih _ y c m with q|⟨q1,q2⟩
   ·rcases List.mem_cons.mp q with e|q
    ·cases e;exact .inr ⟨by rw[←(beq_iff_eq.mp hk)];exact List.mem_cons_self,rfl⟩
    ·exact .inl q
   ·exact .inr ⟨List.mem_cons_of_mem _ q1,q2⟩
  ·rcases ih _ y c m with q|⟨q1,q2⟩
   ·exact .inl q
   ·exact .inr ⟨List.mem_cons_of_mem _ q1,q2⟩
theorem Uj(env:Env):∀(names:List (Str×NameKind)) (acc:List (Str×Addr)) (y:Str),((y,NameKind.free)∈names∨∃c,(y,c)∈acc)→∃c,(y,c)∈Bp env names acc
 |[],_,_,m=>by rcases m with m|m;·cases m
               ·exact m
 |(nm,k)::r,acc,y,m=>by
  rw[Me]
  split
  ·refine Uj env r _ y ?_
   rcases m with m|⟨c,m⟩
   ·rcases List.mem_cons.mp m with e|m
    ·cases e;exact .inr ⟨_,List.mem_cons_self⟩
    ·exact .inl m
   ·exact .inr ⟨c,List.mem_cons_of_mem _ m⟩
  ·rename_i hk
   refine Uj env r _ y ?_
   rcases m with m|m
   ·rcases List.mem_cons.mp m with e|m
    ·cases e;exact absurd rfl hk
    ·exact .inl m
   ·exact .inr m
theorem Ui{env:Env}(names:List (Str×NameKind)):∀(acc:List (Str×Addr)),(∀y,(y,NameKind.free)∈names→∃c,env.cells.lookup y=some c)→
 (forIn names acc fun x r=>if x.2==.free then(cellOf env x.1>>=fun a=>pure (ForInStep.yield ((x.1,a)::r)))else pure (ForInStep.yield r):Sem _)=pure (Bp env names acc):=by
 induction names with
 |nil=>
  intro acc _
  exact rfl
 |cons zz r ih=>
  obtain⟨nm,k⟩:=zz
  intro acc hf
  rw[List.forIn_cons]
  rw[Me]
  have ih:=fun acc=>ih acc fun y hy=>hf y (List.mem_cons_of_mem _ hy)
  cases hk:k==NameKind.free with
  |true=>
   obtain⟨c,hc⟩:=hf nm (by rw[←(beq_iff_eq.mp hk)];exact List.mem_cons_self)
   have e1:cellOf env nm=pure c:=by unfold cellOf;rw[hc]
   simp -iota only[if_true,e1,hc,Option.getD_some]
   exact ih _
  |false=>simpa -iota using ih acc
theorem Md{env:Env}{sc:Scope}(hf:∀y,(y,NameKind.free)∈sc.names→∃c,env.cells.lookup y=some c):closureFor sc env=pure (Bp env sc.names []):=by
 have e:=Ui sc.names [] hf
 unfold closureFor
 show((forIn sc.names [] fun x r=>if x.2==.free then(cellOf env x.1>>=fun a=>pure (ForInStep.yield ((x.1,a)::r)))else pure (ForInStep.yield r):Sem _)>>=fun cs=>pure cs)=_
 rw[e];rfl
theorem K4{M:Model}{A:Around}{E:Value→Shared→Prop}{s:Shared}{scope:Scope}{globals:Addr}{cl:List (Str×Addr)}{qual:Str}{env:Env}{Q:Env→Shared→Prop}
 (hQ:Q (newEnv scope s.heap.objs.size globals (cellsFrom (s.heap.push {cls:=.type "dict",data:=.dict #[]}).objs.size scope.names cl) qual none .none (some env) builtinsNs) {s with heap:=pushCells (s.heap.push {cls:=.type "dict",data:=.dict #[]}) scope.names}):
 wpAny M A (newFunctionEnv scope globals cl [] qual none .none (some env)) Q E s:=by
 simp only[newFunctionEnv,Option.isSome_some,if_true]
 refine wpAny_bind (wpAny_alloc ?_)
 refine wpAny_bind (wpAny_layCells _ (fun name kind cells=>by cases hkc:kind==NameKind.cell<;>simp[hkc]) _ _ _ _ ?_)
 exact wpAny_bind (wpAny_pure (wpAny_pure hQ))
end Mine.Internal
namespace Mine.Internal
open PySem PySem.W PyProof.Rows PySem.SeqAt PySem.MeetsSeq PySem.Calls
variable {W:Wd} {P P' P0:GM} {fr:List Env} {h h' h0:Heap} {η η':List Addr} {σ σ':Sto}
theorem Fn{α β:Type}{f:Str→α→β}{l:List (Str×α)}:∀{y:Str},(l.map fun e=>(e.1,f e.1 e.2)).lookup y=(l.lookup y).map (f y):=by
 induction l with
 |nil=>
  intro _
  exact rfl
 |cons zz r ih=>
  obtain⟨k,v⟩:=zz
  intro y
  simp only[List.map_cons,List.lookup_cons]
  cases hb:y==k with
  |true=>simp[beq_iff_eq.mp hb]
  |false=>exact ih
theorem Gq{α:Type}{p:Str→Bool}:∀{l:List (Str×α)} {y:Str},(l.filter fun e=>p e.1).lookup y=if p y then l.lookup y else none
 |[],y=>by simp
 |(k,v)::r,y=>by
  have ih:=@Gq α p r y
  by_cases hp:p k=true
  ·rw[List.filter_cons_of_pos (by simpa using hp)]
   simp only[List.lookup_cons]
   cases hb:y==k with
   |true=>rw[beq_iff_eq.mp hb];simp[hp]
   |false=>exact ih
  ·rw[List.filter_cons_of_neg (by simpa using hp),ih]
   simp only[List.lookup_cons]
   cases hb:y==k with
   |true=>rw[beq_iff_eq.mp hb];simp[hp]
   |false=>rfl
theorem Jw{cx:Cx}{sc:Scope}{x y:Str}{d j:Nat}(e:(D4 cx sc x).tbl.lookup y=some (d,j)):(y=x∧d=0∧j=0)∨(y≠x∧sc.names.lookup y=some .free∧∃d',d=d'+1∧cx.tbl.lookup y=some (d',j)):=by
 unfold D4 at e
 simp only[List.lookup_cons]at e
 cases hb:y==x with
 |true=>
  rw[hb]at e;cases e
  exact .inl ⟨beq_iff_eq.mp hb,rfl,rfl⟩
 |false=>
  rw[hb]at e
  dsimp only at e
  have e1:=Fn (f:=fun _ (q:Nat×Nat)=>(q.1+1,q.2)) (l:=cx.tbl.filter fun e=>sc.names.lookup e.1==some .free) (y:=y)
  rw[e1,Gq (p:=fun k=>sc.names.lookup k==some .free)]at e
  by_cases hp:(sc.names.lookup y==some NameKind.free)=true
  ·rw[if_pos hp,Option.map_eq_some_iff]at e
   obtain⟨⟨d',j'⟩,e2,e3⟩:=e
   cases e3
   exact .inr ⟨by simpa using hb,by simpa using hp,d',rfl,e2⟩
  ·rw[if_neg hp]at e;cases e
structure ScOk(cx:Cx)(sc:Scope)(x:Str):Prop where
 kind:sc.kind=.function
 nm:Bu x=true
 var:sc.names.lookup x=some .local∨sc.names.lookup x=some .cell
 own:∀y,(y,NameKind.cell)∈sc.names→y=x
 look:∀y k,(y,k)∈sc.names→sc.names.lookup y=some k
 free:∀y,(y,NameKind.free)∈sc.names→∃d i,cx.tbl.lookup y=some (d,i)∧(cx.names.lookup y=some .cell∨cx.names.lookup y=some .free)
theorem Kv{cx:Cx}{sc:Scope}{x:Str}(h:Ou cx sc x=true):ScOk cx sc x:=by
 unfold Ou at h
 simp -iota only[Bool.and_eq_true,List.all_eq_true,Bool.or_eq_true,beq_iff_eq,Bool.not_eq_true']at h
 obtain⟨⟨⟨h1,h2⟩,h3⟩,h4⟩:=h
 refine⟨h1,h2,h3,fun y hm=>?_,fun y k hm=>(h4 _ hm).1.2,fun y hm=>?_⟩
 ·exact(h4 _ hm).1.1.resolve_left (by simp -iota)
 ·obtain⟨q,r⟩:=((h4 _ hm).2.resolve_left (by simp -iota))
  obtain⟨⟨d,i⟩,e⟩:=Option.isSome_iff_exists.mp q
  exact⟨d,i,e,r⟩
section
variable {G:Gl} {n:Nat} {Φ:Phi}
inductive CellR(W:Wd)(env:Env)(P:GM)(η:List Addr)(h:Heap)(y:Str)(o:Option Val):Prop
 |mk (c:Addr) (u:Option Value) (hc:env.cells.lookup y=some c) (hi:h.IsCell c u) (hp:P c=none) (hb:W.base.get? c=none) (ho:OVR W P η o u):CellR W env P η h y o
theorem EnvR.free_cell{cx:Cx}{env:Env}{ρ:PEnv}(R:EnvR W cx env P η h ρ){y:Str}{d i:Nat}(e:cx.tbl.lookup y=some (d,i))(hk:cx.names.lookup y=some .cell∨cx.names.lookup y=some .free):
 CellR W env P η h y (getV ρ d i):=by
 refine(let GG:=_;(?_:GG))
 have hky:env.kindOf y=cx.names.lookup y:=by show env.scope.names.lookup y=_;rw[R.names]
 rcases R.vars y d i e with⟨hl,_⟩|⟨_,c,u,a,b,d,f,g⟩
 ·rw[hky]at hl
  rcases hk with hk|hk<;>rw[hk]at hl<;>cases hl
 ·exact⟨c,u,a,b,d,f,g⟩
theorem A1w{cx:Cx}{env:Env}{ρ:PEnv}{sc:Scope}{x:Str}(hs:ScOk cx sc x)(I:Inv W P fr h)(R:EnvR W cx env P η h ρ){C:Addr}{cells:List (Str×Addr)}
 (hC:C=h.objs.size) (hcells:cells=cellsFrom (h.push {cls:=.type "dict",data:=.dict #[]}).objs.size sc.names (Bp env sc.names [])) (hh:h'=pushCells (h.push {cls:=.type "dict",data:=.dict #[]}) sc.names):
 EnvR W (D4 cx sc x) (compEnvC sc cells C env) P η h' ([none]::ρ)∧(∀y c,cells.lookup y=some c→sc.names.lookup y=some .cell→h.objs.size<c)∧(∀y c,cells.lookup y=some c→((y,NameKind.cell)∈sc.names∧h.objs.size<c)∨((y,NameKind.free)∈sc.names∧env.cells.lookup y=some c)):=by
 subst hC hh
 have kp:∀b o,h.get? b=some o→(pushCells (h.push {cls:=.type "dict",data:=.dict #[]}) sc.names).get? b=some o:=fun b o e=>pushCells_keeps _ _ _ _ (Ah _ _ b o e)
 have hkin:(compEnvC sc cells h.objs.size env).scope.names=(D4 cx sc x).names:=by
  show(sc.names.map fun(n,k)=>if(k==.free&&env.scope.kind==.function&&env.kindOf n==some .cell)then(n,NameKind.cell)else(n,k))=sc.names.map fun e=>if e.2==.free&&cx.names.lookup e.1==some .cell then(e.1,NameKind.cell)else(e.1,e.2)
  refine List.map_congr_left fun e J=>?_
  obtain⟨nn,k⟩:=e
  have e1:env.kindOf nn=cx.names.lookup nn:=by show env.scope.names.lookup nn=_;rw[R.names]
  dsimp only
  rw[e1,R.kind]
  simp
 have kof:∀y,(compEnvC sc cells h.objs.size env).kindOf y=(sc.names.lookup y).map fun k=>if k==.free&&cx.names.lookup y==some .cell then NameKind.cell else k:=fun y=>by
  show(compEnvC sc cells h.objs.size env).scope.names.lookup y=_
  rw[hkin]
  show(sc.names.map fun e=>if e.2==.free&&cx.names.lookup e.1==some .cell then(e.1,NameKind.cell)else(e.1,e.2)).lookup y=_
  have:(sc.names.map fun e=>if e.2==.free&&cx.names.lookup e.1==some .cell then(e.1,NameKind.cell)else(e.1,e.2))=sc.names.map fun e=>(e.1,(fun(n:Str) (k:NameKind)=>if k==.free&&cx.names.lookup n==some .cell then NameKind.cell else k) e.1 e.2):=by
   refine List.map_congr_left fun e J=>?_
   dsimp only
   split<;>rfl
  rw[this,Fn (f:=fun(n:Str) (k:NameKind)=>if k==.free&&cx.names.lookup n==some .cell then NameKind.cell else k)]
 have mem:∀y c,cells.lookup y=some c→((y,NameKind.cell)∈sc.names∧h.objs.size<c∧(pushCells (h.push {cls:=.type "dict",data:=.dict #[]}) sc.names).IsCell c none)∨((y,NameKind.free)∈sc.names∧env.cells.lookup y=some c):=fun y c e=>by
  rw[hcells]at e
  refine(let GG:=_;(?_:GG))
  rcases Ob _ _ _ _ _ (mem_of_lookup e)with q|⟨q1,q2,q3⟩
  ·rcases A8y _ _ _ _ _ q with q|⟨q1,q2⟩
   ·cases q
   ·obtain⟨d,i,e1,hk⟩:=hs.free y q1
    obtain⟨c',u,hc,_⟩:=R.free_cell e1 hk
    rw[hc]at q2
    exact .inr ⟨q1,by rw[hc,q2];rfl⟩
  ·rw[Heap.size_push]at q2
   exact .inl ⟨q1,q2,q3⟩
 have live:∀y,(y,NameKind.free)∈sc.names→∀c,env.cells.lookup y=some c→∃o,h.get? c=some o:=fun y hy c hc=>by
  refine(let GG:=_;(?_:GG))
  obtain⟨d,i,e1,hk⟩:=hs.free y hy
  obtain⟨c',u,hc',⟨o,ho,_⟩,_⟩:=R.free_cell e1 hk
  rw[hc]at hc';cases hc'
  exact⟨o,ho⟩
 have hnew:∀c,h.objs.size≤c→h.get? c=none:=fun c hc=>Heap.get?_none_of_le hc
 have hC0:h.get? h.objs.size=none:=Ak h
 refine⟨⟨R.kind▸hs.kind,R.glob,R.blt,hkin,⟨_,(Heap.Ns.new h (.type "dict")).keeps (pushCells_keeps _ _)⟩,Ad I hC0,Bc I hC0,?_,?_⟩,?_,?_⟩
 ·intro y z c hy hz
  rcases mem y c hy with⟨y1,y2,_⟩|⟨y1,y2⟩<;>rcases mem z c hz with⟨z1,z2,_⟩|⟨z1,z2⟩
  ·rw[hs.own y y1,hs.own z z1]
  ·obtain⟨o,ho⟩:=live z z1 c z2
   exact absurd (Heap.lt_size ho) (Nat.not_lt.mpr (Nat.le_of_lt y2))
  ·obtain⟨o,ho⟩:=live y y1 c y2
   exact absurd (Heap.lt_size ho) (Nat.not_lt.mpr (Nat.le_of_lt z2))
  ·exact R.inj y z c y2 z2
 ·intro y d j e
  rcases Jw e with⟨rfl,rfl,rfl⟩|⟨hy,hf,d',rfl,e'⟩
  ·show LocR W _ P η _ y none
   rcases hs.var with hv|hv
   ·exact .inl ⟨by rw[kof,hv];rfl,_,(Heap.Ns.new h (.type "dict")).keeps (pushCells_keeps _ _),trivial⟩
   ·refine(let GG:=_;(?_:GG))
    have hm:=mem_of_lookup hv
    obtain⟨c,hc⟩:=Eb sc.names (h.push {cls:=.type "dict",data:=.dict #[]}).objs.size (Bp env sc.names []) y (.inl hm)
    obtain⟨c',hc'⟩:=Cy hc
    rw[←hcells]at hc'
    rcases mem y c' hc' with⟨_,q2,q3⟩|⟨q1,_⟩
    ·have h0:=hnew c' (by omega)
     exact .inr ⟨.inl (by rw[kof,hv];rfl),c',none,hc',q3,Ad I h0,Bc I h0,trivial⟩
    ·have:=hs.look y _ q1
     rw[hv]at this;cases this
  ·have hm:=mem_of_lookup hf
   refine(let GG:=_;(?_:GG))
   obtain⟨d2,i2,e1,hk⟩:=hs.free y hm
   rw[e']at e1;cases e1
   obtain⟨c,u,hc,hi,hp,hb,ho⟩:=R.free_cell e' hk
   obtain⟨c1,hc1⟩:=Uj env sc.names [] y (.inl hm)
   obtain⟨c2,hc2⟩:=Eb sc.names (h.push {cls:=.type "dict",data:=.dict #[]}).objs.size (Bp env sc.names []) y (.inr ⟨c1,hc1⟩)
   obtain⟨c3,hc3⟩:=Cy hc2
   rw[←hcells]at hc3
   have h3:c3=c:=by
    rcases mem y c3 hc3 with⟨q1,_⟩|⟨_,q2⟩
    ·have:=hs.own y q1
     exact absurd this hy
    ·rw[hc]at q2;exact(Option.some.inj q2).symm
   subst h3
   refine .inr ⟨?_,c3,u,hc3,hi.keeps kp,hp,hb,ho⟩
   rw[kof,hf]
   rcases hk with hk|hk<;>rw[hk]
   ·exact .inl rfl
   ·exact .inr rfl
 ·intro y c hc hk
  rcases mem y c hc with⟨_,q,_⟩|⟨q,_⟩
  ·exact q
  ·have:=hs.look y _ q
   rw[hk]at this;cases this
 ·intro y c hc
  rcases mem y c hc with⟨q1,q,_⟩|⟨q1,q2⟩
  ·exact .inl ⟨q1,q⟩
  ·exact .inr ⟨q1,q2⟩
noncomputable def Ik(W:Wd)(G:Gl)(n:Nat)(Φ:Phi)(es:CEs):Prop:=∀(cx:Cx) (xs:List Expr) (ρ:PEnv) (σ:Sto) (A:Around) (fr:List Env) (env:Env) (P:GM) (η:List Addr) (s:Shared),ckEs G cx es xs=true→AOK A fr n→Cur W fr cx env ρ P η σ s.heap→
 E9 G.pol Φ ρ es σ≠.stk→wpAny (md W) A (forIn xs true fun c r=>if r=true then do let ok←isTrue c env (eval c env);pure (ForInStep.yield ok)else pure (ForInStep.yield r)) (QQ W fr P η s RelB (E9 G.pol Φ ρ es σ)) (EE W fr P s (E9 G.pol Φ ρ es σ)) s
theorem Sa{M:Model}{A:Around}{s:Shared}{env:Env}{Q:Bool→Shared→Prop}{E:Value→Shared→Prop}(xs:List Expr):Q false s→
 wpAny M A (forIn xs false fun c r=>if r=true then do let ok←isTrue c env (eval c env);pure (ForInStep.yield ok)else pure (ForInStep.yield r)) Q E s:=by
 induction xs with
 |nil=>
  intro h
  rw[List.forIn_nil];exact wpAny_pure h
 |cons x xs ih=>
  intro h
  rw[List.forIn_cons]
  exact wpAny_bind (wpAny_pure (ih h))
theorem A4h:Ik W G n Φ .nil:=by
 intro cx xs ρ σ A fr env P η s hk hA C hne
 induction xs using List.casesOn with
 |cons=>exact nf hk
 |nil=>
  rw[List.forIn_nil]
  exact wpAny_pure ⟨true,σ,rfl,s.heap,s.toks,P,η,rfl,.refl ..,.refl _,C.I,C.S,rfl⟩
set_option tactic.hygienic true in
theorem A10{e:CE}{r:CEs}(h1:TrOk W G n Φ e)(h2:Ik W G n Φ r):Ik W G n Φ (.cons e r):=by
 intro cx xs ρ σ A fr env P η s hk hA C hne
 induction xs using List.casesOn with
 |nil=>exact nf hk
 |cons x xs=>
  have hk:=band hk
  rw[List.forIn_cons]
  simp -iota only[if_true]
  refine wpAny_bind (wpAny_bind ?_)
  refine Av (X:=fun v Q E s=>wpAny (md W) A (pure (ForInStep.yield v)) (fun st s'=>wpAny (md W) A (match st with|.done b=>pure b|.yield b=>forIn xs b fun c r=>if r=true then do let ok←isTrue c env (eval c env);pure (ForInStep.yield ok)else pure (ForInStep.yield r)) Q E s') E s)
   (fun J J J J J J x a b=>wpAny_mono x (fun J J y=>wpAny_mono y a b) b) C hne (fun h=>h1 cx x ρ σ A fr env P η s hk.1 hA C h) ?_
  intro b v σ1 hp tk1 P1 η1 _ hf _ _ C1 rel
  have rel:v=b:=rel
  subst rel
  refine wpAny_pure ?_
  induction v using Bool.casesOn with
  |true=>exact h2 cx xs ρ σ1 A fr env P1 η1 _ hk.2 hA C1 hf
  |false=>exact Sa xs ⟨false,σ1,rfl,hp,tk1,P1,η1,rfl,.refl ..,.refl _,C1.I,C1.S,rfl⟩
end
end Mine.Internal
namespace Mine.Internal
open PySem PySem.W PyProof.Rows PySem.SeqAt PySem.MeetsSeq PySem.Calls
variable {W:Wd} {P P' P0:GM} {fr:List Env} {h h' h0:Heap} {η η':List Addr} {σ σ':Sto}
section
variable {G:Gl} {n:Nat} {Φ:Phi}
theorem H7{cx:Cx}{sc:Scope}{x y:Str}:(D4 cx sc x).names.lookup y=(sc.names.lookup y).map fun k=>if k==.free&&cx.names.lookup y==some .cell then NameKind.cell else k:=by
 show(sc.names.map fun e=>if e.2==.free&&cx.names.lookup e.1==some .cell then(e.1,NameKind.cell)else(e.1,e.2)).lookup y=_
 have:(sc.names.map fun e=>if e.2==.free&&cx.names.lookup e.1==some .cell then(e.1,NameKind.cell)else(e.1,e.2))=sc.names.map fun e=>(e.1,(fun(n:Str) (k:NameKind)=>if k==.free&&cx.names.lookup n==some .cell then NameKind.cell else k) e.1 e.2):=by
  refine List.map_congr_left fun e J=>?_
  dsimp only
  split<;>rfl
 rw[this,Fn (f:=fun(n:Str) (k:NameKind)=>if k==.free&&cx.names.lookup n==some .cell then NameKind.cell else k)]
structure CompAt(W:Wd)(fr:List Env)(cx:Cx)(cenv:Env)(ρ:PEnv)(P0:GM)(η0:List Addr)(h0:Heap)(D Ia:Addr)(St:Nat→Heap→Prop)(P:GM)(η:List Addr)(σ:Sto)(h:Heap)(j:Nat)(acc:List PV)(o:Option Val):Prop where
 st:Stp fr P0 h0 P h
 pre:Pre η0 η
 inv:Inv W P fr h
 S:SR W P η σ
 R:EnvR W cx cenv P η h ([o]::ρ)
 pD:P D=none
 list:∃vs,h.PlainList D vs∧Rvs W P acc vs.toList
 walk:St j h
 pI:P Ia=none
theorem CompAt.poke{cx:Cx}{cenv:Env}{ρ:PEnv}{η0:List Addr}{D Ia:Addr}{St:Nat→Heap→Prop}{j:Nat}{acc:List PV}{o:Option Val}(I0:Inv W P0 fr h0)(x:CompAt W fr cx cenv ρ P0 η0 h0 D Ia St P η σ h j acc o)
 (hI0:h0.get? Ia=none) (hDI:D≠Ia) (hC:cenv.locals≠Ia) (hcell:∀y c,cenv.cells.lookup y=some c→c≠Ia) (e:Heap.ExtBut Ia h h'):
 Stp fr P0 h0 P h'∧Inv W P fr h'∧EnvR W cx cenv P η h' ([o]::ρ)∧∃vs,h'.PlainList D vs∧Rvs W P acc vs.toList:=by
 refine(let GG:=_;(?_:GG))
 obtain⟨vs,hv,rv⟩:=x.list
 exact⟨Bi x.st hI0 e,Bj x.inv x.pI (Bc I0 hI0) (fun env he hf=>absurd hf (Cb I0 hI0 env he)) e,G5 x.R e hC hcell,vs,hv.at fun o q=>e _ o hDI q,rv⟩
structure Lp(W:Wd)(fr:List Env)(cx:Cx)(x:Str)(cenv:Env)(P:GM)(h0:Heap)(D Ia:Addr)(St:Nat→Heap→Prop):Prop where
 i0:Inv W P fr h0
 hI:h0.get? Ia=none
 hD:h0.get? D=none
 hC:h0.get? cenv.locals=none
 DI:D≠Ia
 CD:cenv.locals≠D
 CI:cenv.locals≠Ia
 cD:∀y c,cenv.cells.lookup y=some c→c≠D
 cI:∀y c,cenv.cells.lookup y=some c→c≠Ia
 own:∀c,cenv.cells.lookup x=some c→cx.names.lookup x=some .cell→h0.get? c=none
 look0:cx.tbl.lookup x=some (0,0)
 inj0:∀y,cx.tbl.lookup y=some (0,0)→y=x
 kd0:cx.names.lookup x=some .local∨cx.names.lookup x=some .cell
 frame:∀{Pa Pb:GM} {ha hb:Heap} (j:Nat),GLe P Pa→Inv W Pa fr ha→GLe P Pb→Inv W Pb fr hb→(∀o,ha.get? Ia=some o→hb.get? Ia=some o)→St j ha→St j hb
 live:∀j hj,St j hj→∃oI,hj.get? Ia=some oI
inductive CInv(W:Wd)(fr:List Env)(cx:Cx)(cenv:Env)(ρ:PEnv)(P:GM)(η:List Addr)(s:Shared)(D Ia:Addr)(St:Nat→Heap→Prop)(t:PV→Sto→Res (Bool×Sto))(e:PV→Sto→Res (Val×Sto))(xs:List PV)(res:List PV×Sto)(k:Nat)(s':Shared):Prop
 |mk (h':Heap) (tk:Nat) (P':GM) (η':List Addr) (σ':Sto) (j:Nat) (acc:List PV) (o:Option Val) (es:s'={s with heap:=h',toks:=tk}) (hk:k=xs.length+1-j) (hj:j≤xs.length) (ha:acc.length≤j)
  (X:CompAt W fr cx cenv ρ P η s.heap D Ia St P' η' σ' h' j acc o) (hr:Jx t e (xs.drop j) acc σ'=.ok res):CInv W fr cx cenv ρ P η s D Ia St t e xs res k s'
theorem A16{α:Type}{k:PV×Sto→Res α}{o:Option (PV×Sto)}{b:α}(h:frzK k o=.ok b):∃x σ,o=some (x,σ)∧k (x,σ)=.ok b:=by
 induction o using Option.casesOn with
 |none=>cases h
 |some q=>exact⟨q.1,q.2,rfl,h⟩
theorem Wc{j m:Nat}(h:j<m):m+1-(j+1)<m+1-j:=
 Nat.lt_of_le_of_lt (Nat.le_of_eq (Nat.succ_sub_succ m j)) (Nat.lt_of_lt_of_le (Nat.lt_succ_self (m-j)) (Nat.le_of_eq (Nat.succ_sub (Nat.le_of_lt h)).symm))
theorem Y3{j:Nat}{xs acc:List PV}{vs:Array Value}(h:xs.length≤LIM)(hj:j≤xs.length)(ha:acc.length≤j)(e:acc.length=vs.toList.length):vs.size≤sizeLine:=by
 have e2:vs.toList.length=vs.size:=by simp
 rw[sizeLine_eq]
 unfold LIM at h
 omega
theorem Ug{cx:Cx}{sc:Scope}{x:Str}(hs:ScOk cx sc x)(e:(D4 cx sc x).names.lookup x=some .cell):sc.names.lookup x=some .cell:=by
 rw[H7]at e
 rcases hs.var with q|q
 ·rw[q]at e;cases e
 ·exact q
theorem Y2(hG:GlOK W G){elt:CE}{ifs:CEs}(hE:EvOk W G n Φ elt)(hT:Ik W G n Φ ifs){A:Around}{cx:Cx}{cenv:Env}{ρ:PEnv}{x:Str}{elt':Expr}{ifs':List Expr}{px:Pos}{s:Shared}{D Ia:Addr}{St:Nat→Heap→Prop}
 (hk1:ckE G cx elt elt'=true) (hk2:ckEs G cx ifs ifs'=true) (hA:AOK A fr n) (L:Lp W fr cx x cenv P s.heap D Ia St) {xs:List PV} {res:List PV×Sto} (hsm:xs.length≤LIM) {y:PV} {v1:Value} {j:Nat} {acc:List PV} {o':Option Val} {h' h1:Heap} {tk1:Nat} {P':GM} {η':List Addr} {σ':Sto} (hlt:j<xs.length) (hacc:acc.length≤j)
 (X:CompAt W fr cx cenv ρ P η s.heap D Ia St P' η' σ' h' j acc o') (rv1:Rv W P y v1) (hst1:St (j+1) h1) (eb:Heap.ExtBut Ia h' h1) {K:Shared→Prop} {E:Value→Shared→Prop} {R:List PV→Sto→Res (List PV×Sto)}
 (hres:(E9 G.pol Φ ([some (Val.v y)]::ρ) ifs σ').bind (fun t=>cond t.1 ((ev G.pol Φ ([some (Val.v y)]::ρ) false elt t.2).bind fun r=>frzK (fun q=>R (acc++[q.1]) q.2) (frz r.2 r.1)) (R acc t.2))=.ok res)
 (go:∀h3 tk3 P3 η3 σ3 acc' o,acc'.length≤j+1→CompAt W fr cx cenv ρ P η s.heap D Ia St P3 η3 σ3 h3 (j+1) acc' o→R acc' σ3=.ok res→K {s with heap:=h3,toks:=tk3}):
 wpAny (md W) A (assign (.Name x px) cenv v1) (fun J s2=>wpAny (md W) A (forIn ifs' true fun c r=>do
  if r then
   let ok←PySem.isTrue c cenv (eval c cenv)
   pure (ForInStep.yield ok)
  else pure (ForInStep.yield r)) (fun ok s3=>if ok=true then wpAny (md W) A (eval elt' cenv) (fun v s4=>wpAny (md W) A (call (.builtin "list.append") [.ref D,v]) (fun J s5=>K s5) E s4) E s3 else K s3) E s2) E {s with heap:=h1,toks:=tk1}:=by
 have nD:=Cb L.i0 L.hD
 have nI:=Cb L.i0 L.hI
 obtain⟨⟨b0,σ3⟩,e3,hres⟩:=Res.bind_ok hres
 obtain⟨st1,I1,R1,vs,hv1,rvs1⟩:=X.poke L.i0 L.hI L.DI L.CI L.cI eb
 refine wpAny_assign_Name (Nd (z:=.v y) R1 I1 L.look0 L.inj0 L.kd0 ⟨_,_,rfl,by simp⟩ (.v (rv1.mono X.st.le)) fun h2 tk2 b hb hsb R2 I2=>?_)
 have fb:s.heap.get? b=none∧D≠b∧Ia≠b:=by
  rcases hb with rfl|⟨hb,hk⟩
  ·exact⟨L.hC,L.CD.symm,L.CI.symm⟩
  ·exact⟨L.own b hb hk,(L.cD x b hb).symm,(L.cI x b hb).symm⟩
 have st2:=Bi st1 fb.1 hsb.extBut
 have walk2:=L.frame (j+1) X.st.le I1 X.st.le I2 (fun o q=>hsb.extBut _ o fb.2.2 q) hst1
 refine A5e (hT cx ifs' ([some (.v y)]::ρ) σ' A fr cenv P' η' {s with heap:=h2,toks:=tk2} hk2 hA ⟨I2,X.S,R2⟩ (Res.ok_ne e3)) e3 fun ok h3 tk3 P3 η3 st3' pr3 I3' S3 rel3=>?_
 cases(rel3:ok=b0)
 obtain⟨oD,hoD⟩:=hv1.at fun o q=>hsb.extBut _ o fb.2.1 q
 obtain⟨o2,ho2⟩:=L.live _ _ walk2
 have vD3:=stay st3' X.pD hoD nD
 have vI3:=stay st3' X.pI ho2 nI
 have stA:=st2.trans st3'
 have walk3:=L.frame (j+1) X.st.le I2 stA.le I3' (fun o q=>(ho2.symm.trans q)▸vI3.1) walk2
 have R3':=R2.step st3' pr3
 induction b0 using Bool.casesOn with
 |false=>exact go h3 tk3 P3 η3 σ3 acc (some (.v y)) (Nat.le_succ_of_le hacc) ⟨stA,X.pre.trans pr3,I3',S3,R3',vD3.2,⟨vs,⟨oD,vD3.1⟩,rvs1.mono st3'.le⟩,walk3,vI3.2⟩ hres
 |true=>
  obtain⟨⟨b4,σ4⟩,e4,hres⟩:=Res.bind_ok hres
  refine A5e (hE cx elt' false ([some (.v y)]::ρ) σ3 A fr cenv P3 η3 {s with heap:=h3,toks:=tk3} hk1 hA ⟨I3',S3,R3'⟩ (Res.ok_ne e4)) e4 fun u h4 tk4 P4 η4 st4 pr4 I4 S4 rel4=>?_
  obtain⟨x5,σ5,ef,hres⟩:=A16 hres
  obtain⟨P5,st5,I5,S5,rv5⟩:=Dk hG.ok.sys I4 S4 rel4 ef
  have st45:=st4.trans st5
  have vD4:=stay st45 vD3.2 vD3.1 nD
  have vI4:=stay st45 vI3.2 vI3.1 nI
  have stB:=stA.trans st45
  have walk4:=L.frame (j+1) stA.le I3' stB.le I5 (fun o q=>(vI3.1.symm.trans q)▸vI4.1) walk3
  refine wpAny_list_append_plain (s:={s with heap:=h4,toks:=tk4}) (hsz:=Y3 hsm (Nat.le_of_lt hlt) hacc rvs1.length) (items:=vs) ⟨oD,vD4.1⟩ fun h6 hl6 hs6=>?_
  have I6:=Bj I5 vD4.2 (Bc L.i0 L.hD) (fun env he hf=>absurd hf (nD env he)) hs6.extBut
  exact go h6 tk4 P5 η4 σ5 (acc++[x5]) (some (.v y)) (by rw[List.length_append];exact Nat.succ_le_succ hacc) ⟨Bi stB L.hD hs6.extBut,(X.pre.trans pr3).trans pr4,I6,S5,G5 (R3'.step st45 pr4) hs6.extBut L.CD L.cD,vD4.2,
   ⟨_,hl6,by rw[Array.toList_push];exact Rvs.append (rvs1.mono (st3'.le.trans st45.le)) (.cons rv5 .nil)⟩,L.frame (j+1) stB.le I5 stB.le I6 (fun o q=>hs6.extBut _ o L.DI.symm q) walk4,vI4.2⟩ hres
theorem Y4(hG:GlOK W G){elt:CE}{ifs:CEs}(hE:EvOk W G n Φ elt)(hT:Ik W G n Φ ifs){A:Around}{cx:Cx}{cenv:Env}{ρ:PEnv}{sc:Scope}{x:Str}{elt' it':Expr}{ifs':List Expr}{px pos:Pos}{s:Shared}{D Ia:Addr}{fp:List Addr}{Pw:Nat→Value→Prop}{St:Nat→Heap→Prop}
 (hk1:ckE G cx elt elt'=true) (hk2:ckEs G cx ifs ifs'=true) (hA:AOK A fr n) (L:Lp W fr cx x cenv P s.heap D Ia St) {xs:List PV} {res:List PV×Sto} (Wk:Walks W.prog W.w A Ia fp [Ia] xs.length Pw St) (hitem:∀i v,i<xs.length→Pw i v→∃x,xs[i]?=some x∧Rv W P x v) (hsm:xs.length≤LIM)
 {RR:Result→Shared→Prop} (fin:∀h' P' η' (acc:List PV×Sto) o,CompAt W fr cx cenv ρ P η s.heap D Ia St P' η' acc.2 h' xs.length acc.1 o→acc=res→∀h1 tk1,Heap.ExtBut Ia h' h1→RR (.ok .next) {s with heap:=h1,toks:=tk1})
 {h:Heap} {tk:Nat} {P':GM} {η':List Addr} {σ':Sto} (X0:CompAt W fr cx cenv ρ P η s.heap D Ia St P' η' σ' h 0 [] none) (hr:Jx (fun y σ=>E9 G.pol Φ ([some (Val.v y)]::ρ) ifs σ) (fun y σ=>ev G.pol Φ ([some (Val.v y)]::ρ) false elt σ) xs [] σ'=.ok res):
 codeAny (md W) A (.compLoop (.ListComp elt' [⟨.Name x px,it',ifs',0⟩] sc pos) 0 (.ref Ia) (.ref D) cenv) RR {s with heap:=h,toks:=tk}:=by
 refine codeAny_compLoop_tests (CInv W fr cx cenv ρ P η s D Ia St (fun y σ=>E9 G.pol Φ ([some (Val.v y)]::ρ) ifs σ) (fun y σ=>ev G.pol Φ ([some (Val.v y)]::ρ) false elt σ) xs res) ?_ (xs.length+1) ⟨h,tk,P',η',σ',0,[],none,rfl,rfl,Nat.zero_le _,Nat.le_refl _,X0,hr⟩
 rintro k s' ⟨h',tk,P',η',σ',j,acc,o',rfl,rfl,hj,hacc,X,hres⟩
 rcases Nat.lt_or_ge j xs.length with hlt|hge
 ·refine Wk.item j _ _ _ hlt X.walk fun v1 h1 tk1 hPv hst1 hkp1=>?_
  obtain⟨y,hy,rv1⟩:=hitem j v1 hlt hPv
  rw[show xs.drop j=y::xs.drop (j+1)from(List.drop_eq_getElem_cons hlt).trans (congrArg (·::xs.drop (j+1)) (Option.some.inj ((List.getElem?_eq_getElem hlt).symm.trans hy)))]at hres
  exact Y2 hG hE hT (tk1:=tk1) hk1 hk2 hA L hsm hlt hacc X rv1 hst1 (fun b o hb e=>hkp1 b o (fun q=>hb (List.mem_singleton.mp q)) e) hres fun h3 tk3 P3 η3 σ3 acc' o ha Y e=>⟨_,Wc hlt,h3,tk3,P3,η3,σ3,j+1,acc',o,rfl,rfl,hlt,ha,Y,e⟩
 ·cases Nat.le_antisymm hj hge
  refine Wk.done _ _ _ X.walk fun h1 tk1 hkp1=>?_
  rw[List.drop_length]at hres
  exact fin h' P' η' (acc,σ') o' X (Res.ok.inj hres) h1 tk1 fun b o hb e=>hkp1 b o (fun q=>hb (List.mem_singleton.mp q)) e
theorem A1v(hS:By W){cx:Cx}{cenv:Env}{ρ:PEnv}{x:Str}{D Ia:Addr}{St:Nat→Heap→Prop}{h0 h1:Heap}{η0:List Addr}{qs:List PV}{o:Option Val}{j:Nat}{m:Bool}(L:Lp W fr cx x cenv P0 h0 D Ia St)
 (X:CompAt W fr cx cenv ρ P0 η0 h0 D Ia St P η σ h j qs o) (e:Heap.ExtBut Ia h h1):∃m' P' η',P' cenv.locals=none∧h1.Ns cenv.locals m'∧Stp fr P0 h0 P' h1∧Pre η0 η'∧Inv W P' fr h1∧SR W P' η' (mk m qs σ).2∧RV (W:=W) P' η' (mk m qs σ).1 (.ref D):=by
 refine(let GG:=_;(?_:GG))
 obtain⟨st1,I1,R1,vs,⟨nD,hoD⟩,rvs1⟩:=X.poke L.i0 L.hI L.DI L.CI L.cI e
 obtain⟨mC,hnC⟩:=R1.ns
 have fin:∀g:Gh,GH h1 D g→Stp fr P0 h0 (upd P D g) h1∧Inv W (upd P D g) fr h1:=fun g hg=>by
  have stF:Stp fr P0 h0 (upd P D g) h1:=by
   refine(let GG:=_;(?_:GG))
   refine⟨st1.le.trans (Bn (.inl X.pD)),fun b hb hb'=>?_,fun b hb=>Kc b (st1.dom b hb),st1.keep⟩
   by_cases q:b=D
   ·rw[q];exact L.hD
   ·rw[B6 q]at hb'
    exact st1.new b hb hb'
  refine⟨stF,L.i0.step stF (fun b u q=>?_) hS⟩
  by_cases z:b=D
  ·subst z;rw[Ap]at q;cases q;exact hg
  ·rw[B6 z]at q;exact I1.gh b u q
 have hCn:∀g,upd P D g cenv.locals=none:=fun g=>by rw[B6 L.CD];exact R1.locP
 have le:∀g,GLe P (upd P D g):=fun g=>Bn (.inl X.pD)
 induction m using Bool.casesOn with
 |false=>
  obtain⟨stF,IF⟩:=fin (.fz (lob vs.toList nD)) hoD
  exact⟨mC,_,η,hCn _,hnC,stF,X.pre,IF,X.S.mono (le _) (At X.pD),.v (.lst (Ap ..) (rvs1.mono (le _)))⟩
 |true=>
  obtain⟨stF,IF⟩:=fin (.mu η.length (lob vs.toList nD)) hoD
  refine⟨mC,_,η++[D],hCn _,hnC,stF,X.pre.trans ⟨_,rfl⟩,IF,X.S.add (le _) (At X.pD) (.list (Ap ..) (rvs1.mono (le _))),?_⟩
  show RV _ _ (.h σ.length) _
  exact .h (by rw[←X.S.len];exact List.getElem?_concat_length)
theorem O7(hG:GlOK W G){elt:CE}{ifs:CEs}(hE:EvOk W G n Φ elt)(hT:Ik W G n Φ ifs){A:Around}{cx:Cx}{env:Env}{ρ:PEnv}{sc:Scope}{x:Str}{elt' it':Expr}{ifs':List Expr}{px pos:Pos}{s:Shared}
 (hs:ScOk cx sc x) (hk1:ckE G (D4 cx sc x) elt elt'=true) (hk2:ckEs G (D4 cx sc x) ifs ifs'=true) (hA:AOK A fr n) (C:Cur W fr cx env ρ P η σ s.heap) {v:Value} {pv:PV} {xs qs:List PV} {σq:Sto} {m:Bool}
 (rel:Rv W P pv v) (hit:Az pv=some xs) (hsm:xs.length≤LIM)
 (hr:Jx (fun y σ=>E9 G.pol Φ ([some (Val.v y)]::ρ) ifs σ) (fun y σ=>ev G.pol Φ ([some (Val.v y)]::ρ) false elt σ) xs [] σ=.ok (qs,σq)) {RR:Value→Addr→Result→Shared→Prop} {E:Value→Shared→Prop}
 (hRR:∀D Ca m' h' tk P' η',s.heap.get? Ca=none→P' Ca=none→Ca≠D→h'.Ns Ca m'→Stp fr P s.heap P' h'→Pre η η'→Inv W P' fr h'→SR W P' η' (mk m qs σq).2→RV (W:=W) P' η' (mk m qs σq).1 (.ref D)→
  RR (.ref D) Ca (.ok .next) {s with heap:=h',toks:=tk}):
 wpAny (md W) A (pyIter v) (fun it s2=>wpAny (md W) A (newList []) (fun acc s3=>wpAny (md W) A (newFunctionEnv sc env.globals (Bp env sc.names []) [] env.qual none .none (some env)) (fun cenv s4=>
  codeAny (md W) A (.compStart (.ListComp elt' [⟨.Name x px,it',ifs',0⟩] sc pos) 0 it acc {cenv with scope:=relabel sc env}) (RR acc cenv.locals) s4) E s3) E s2) E s:=by
 have hS:=hG.ok.sys
 refine Pi hA C.I rel hit ?_
 rintro it s2 ⟨o,rfl⟩ ⟨I,fp,Pw,St,rfl,Wk,st0,hfp,hI0,hIfp,hlive,kp2,hitem⟩
 refine wpAny_newObj_type (K4 ?_)
 obtain⟨oI,hoI,_⟩:=hlive 0 _ st0
 dsimp only at st0 hoI kp2⊢
 generalize hH1:s.heap.push o=H1 at st0 hoI kp2⊢
 generalize hH2:H1.push {cls:=.type "list",dict:=none,data:=.seq ([]:List Value).toArray}=H2
 have kp12:∀b o,H1.get? b=some o→H2.get? b=some o:=by rw[←hH2];exact Ah _ _
 have kpA:∀b o,s.heap.get? b=some o→H2.get? b=some o:=fun b o e=>kp12 b o (kp2 b o e)
 have sz1:H1.objs.size=s.heap.objs.size+1:=by rw[←hH1,Heap.size_push]
 have sz2:H2.objs.size=H1.objs.size+1:=by rw[←hH2,Heap.size_push]
 have R2:EnvR W cx env P η H2 ρ:=C.R.step (Ba (fr:=fr) kpA) (.refl _)
 have I2:Inv W P fr H2:=Bg hS C.I kpA
 obtain⟨R3,own3,cells3⟩:=A1w hs I2 R2 rfl rfl rfl
 have kp23:∀b o,H2.get? b=some o→(pushCells (H2.push {cls:=.type "dict",data:=.dict #[]}) sc.names).get? b=some o:=fun b o e=>pushCells_keeps _ _ _ _ (Ah _ _ b o e)
 generalize hcells:cellsFrom (H2.push {cls:=.type "dict",data:=.dict #[]}).objs.size sc.names (Bp env sc.names [])=cells at R3 own3 cells3⊢
 generalize hH3:pushCells (H2.push {cls:=.type "dict",data:=.dict #[]}) sc.names=H3 at R3 kp23⊢
 have kpB:∀b o,s.heap.get? b=some o→H3.get? b=some o:=fun b o e=>kp23 b o (kpA b o e)
 have I3:Inv W P fr H3:=Bg hS C.I kpB
 have hD0:s.heap.get? H1.objs.size=none:=Heap.get?_none_of_le (by rw[sz1];exact Nat.le_succ _)
 have hC0:s.heap.get? H2.objs.size=none:=Heap.get?_none_of_le (by rw[sz2,sz1];exact Nat.le_trans (Nat.le_succ _) (Nat.le_succ _))
 have hgD:H2.get? H1.objs.size=some {cls:=.type "list",dict:=none,data:=.seq ([]:List Value).toArray}:=by rw[←hH2];exact Heap.get?_push_size _ rfl
 have ltI:I<H1.objs.size:=Heap.lt_size hoI
 have ltC:H1.objs.size<H2.objs.size:=by rw[sz2];exact Nat.lt_succ_self _
 have cellD:∀y c,cells.lookup y=some c→c≠H1.objs.size∧c≠I:=fun y c hc=>by
  refine(let GG:=_;(?_:GG))
  rcases cells3 y c hc with⟨_,q⟩|⟨o',q⟩
  ·have hD:=Nat.lt_trans ltC q
   exact⟨Nat.ne_of_gt hD,Nat.ne_of_gt (Nat.lt_trans ltI hD)⟩
  ·obtain⟨d,i,e1,hk⟩:=hs.free y o'
   obtain⟨c',u,hc',⟨oc,ho,_⟩,_⟩:=C.R.free_cell e1 hk
   rw[q]at hc';cases hc'
   exact⟨fun e=>(nomatch ((e▸hD0).symm.trans ho)),fun e=>(nomatch ((e▸hI0).symm.trans ho))⟩
 have fr0:∀{Pa Pb:GM} {ha hb:Heap} (j:Nat),GLe P Pa→Inv W Pa fr ha→GLe P Pb→Inv W Pb fr hb→(∀o,ha.get? I=some o→hb.get? I=some o)→St j ha→St j hb:=fun j la Ia lb Ib hI st=>Wk.frame j _ _ st fun b hb' o ho=>by
  rcases hfp b hb' with rfl|⟨ob,hob⟩
  ·exact hI o ho
  ·cases(Ia.gh b _ (la.fz b ob hob):_=some ob).symm.trans ho
   exact Ib.gh b _ (lb.fz b _ hob)
 have L:Lp W fr (D4 cx sc x) x (compEnvC sc cells H2.objs.size env) P s.heap H1.objs.size I St:={
  i0:=C.I,hI:=hI0,hD:=hD0,hC:=hC0,DI:=Nat.ne_of_gt ltI,CD:=Nat.ne_of_gt ltC,CI:=Nat.ne_of_gt (Nat.lt_trans ltI ltC),cD:=fun y c h=>(cellD y c h).1,cI:=fun y c h=>(cellD y c h).2
  own:=fun c hc hk=>Heap.get?_none_of_le (Nat.le_trans (Nat.le_of_lt (Nat.lt_trans (by rw[sz1];exact Nat.lt_succ_self _) ltC)) (Nat.le_of_lt (own3 x c hc (Ug hs hk))))
  look0:=by simp[D4],inj0:=fun y e=>by
   rcases Jw e with⟨q,_⟩|⟨_,_,d',q,_⟩
   ·exact q
   ·cases q
  kd0:=hs.var.imp (fun q=>by rw[H7,q];rfl) (fun q=>by rw[H7,q];rfl)
  frame:=fr0,live:=fun j hj h=>(hlive j hj h).imp fun J z=>z.1}
 have w0:St 0 H3:=fr0 (Pa:=P) (Pb:=P) 0 (.refl _) (Bg hS C.I kp2) (.refl _) I3 (fun o q=>kp23 _ _ (kp12 _ _ q)) st0
 have loop:=Y4 hG hE hT (px:=px) (pos:=pos) (it':=it') (sc:=sc) (s:=s) (tk:=s.toks) (RR:=RR (.ref H1.objs.size) H2.objs.size) hk1 hk2 hA L Wk hitem hsm (fun h' P' η' acc o X e h1 tk1 ext=>by
  refine(let GG:=_;(?_:GG))
  subst e
  obtain⟨m',P2,η2,a1,a2,a3,a4,a5,a6,a7⟩:=A1v (m:=m) hS L X ext
  exact hRR _ _ m' h1 tk1 P2 η2 hC0 a1 L.CD a2 a3 a4 a5 a6 a7)
  ⟨Ba kpB,.refl _,I3,C.S,R3,Ad C.I hD0,⟨#[],⟨_,kp23 _ _ hgD⟩,.nil⟩,w0,Ad C.I hI0⟩ hr
 exact codeAny_compStart_list loop (Wk.self 0 _ _ _ w0 loop)
theorem Mx{M:Model}{A:Around}{E E':Value→Shared→Prop}{Q Q':Value→Shared→Prop}{acc:Value}{C:Addr}{r:Result}{s':Shared}(x:compPost M A E none Q acc C r s')(hQ:∀v s,Q v s→Q' v s)(hE:∀e s,E e s→E' e s):
 compPost M A E' none Q' acc C r s':=by
 induction r using Except.casesOn with
 |ok f=>obtain⟨m,hn,k⟩:=x;exact⟨m,hn,fun h' hs=>hQ _ _ (k h' hs)⟩
 |error e=>obtain⟨m,hn,k⟩:=x;exact⟨m,hn,fun h' hs cenv hc=>wpAny_mono (k h' hs cenv hc) (fun J J z=>z) hE⟩
theorem A4w(hG:GlOK W G){elt it:CE}{ifs:CEs}{nv:Nat}(h1:EvOk W G n Φ it)(hE:EvOk W G n Φ elt)(hT:Ik W G n Φ ifs):EvOk W G n Φ (.comp elt it ifs nv):=by
 intro cx e m ρ σ A fr env P η s hk hA C hne
 have hS:=hG.ok.sys
 refine A00 hk fun elt' gs sc pos hk=>A5p hk fun x px it' ifs'=>Wi fun hq hk0 hks hk1 hk2 hk3=>?_
 ·cases beqE hq
  have hs:=Kv hks
  rw[eval_ListComp]
  refine wpAny_comprehension_free (use:=none) (g:=⟨.Name x px,it',ifs',0⟩) (gs:=[]) (cl:=Bp env sc.names []) rfl (fun v=>?_) (Md fun y hy=>?_) hs.kind (fun y hy hl=>by have:=hs.look y.1 y.2 hy;rw[hl]at this;exact this) ?_
  ·exact Gc hk0 v
  ·obtain⟨d,i,e1,hk⟩:=hs.free y hy
   obtain⟨c,_,hc,_⟩:=C.R.free_cell e1 hk
   exact⟨c,hc⟩
  ·refine Av (X:=fun v Q E s=>wpAny (md W) A (pyIter v) (fun it s2=>wpAny (md W) A (newList []) (fun acc s3=>wpAny (md W) A (newFunctionEnv sc env.globals (Bp env sc.names []) [] env.qual none .none (some env)) (fun cenv s4=>
    codeAny (md W) A (.compStart (.ListComp elt' [⟨.Name x px,it',ifs',0⟩] sc pos) 0 it acc {cenv with scope:=relabel sc env}) (compPost (md W) A E none Q acc cenv.locals) s4) E s3) E s2) E s)
    (fun J J J J J J x a b=>wpAny_mono x (fun J J x=>wpAny_mono x (fun J J x=>wpAny_mono x (fun J J x=>codeAny_mono x fun J J x=>Mx x a b) b) b) b) C hne (fun h=>h1 cx it' false ρ σ A fr env P η s hk1 hA C h) ?_
   intro b v σ1 hp tk1 P1 η1 _ hf _ _ C1 rel
   obtain⟨pv,σ2,xs,ef,ei,e3⟩:=Ds hf
   rw[e3]at hf⊢
   obtain⟨P2,st2,I2,S2,rv2⟩:=Dk hS C1.I C1.S rel ef
   obtain⟨qs,σq,hsm,hr,e4⟩:=O8 hf
   rw[e4]
   have C2:Cur W fr cx env ρ P2 η1 σ2 ({s with heap:=hp,toks:=tk1}:Shared).heap:=C1.step st2 (.refl _) I2 S2
   refine O7 hG hE hT (m:=m) hs hk2 hk3 hA C2 rv2 ei (by simpa[small]using hsm) hr ?_
   intro D Ca m' h' tk P' η' hC0 hPC hCD hns st pr I' S' rel'
   refine⟨m',hns,fun h'' hs''=>?_⟩
   have nC:=Cb I2 hC0
   have IF:=Bj I' hPC (Bc I2 hC0) (fun env he hf=>absurd hf (nC env he)) hs''.extBut
   have stF:=Bi st hC0 hs''.extBut
   exact⟨_,_,rfl,h'',tk,P',η',rfl,st2.trans stF,pr,IF,S',rel'⟩
end
end Mine.Internal
namespace Mine.Internal
open PySem PySem.W PyProof.Rows PySem.SeqAt PySem.MeetsSeq PySem.Calls
variable {W:Wd}
section
variable {G:Gl} {n:Nat} {Φ:Phi}
noncomputable def Vt:CE→Bool
 |.notE _=>false
 |.boolE _ _=>false
 |.ite _ _ _=>false
 |.cmp _ _ _=>false
 |.dead=>false
 |_=>true
theorem A1z{cx:Cx}{ce:CE}{e:Expr}(hk:ckE G cx ce e=true)(hp:Vt ce=true):Iw e=true:=by
 induction ce using CE.casesOn<;>first|exact nf hp|skip
 ·exact Eo hk fun J J J J=>rfl
 ·exact Dy hk fun J J J=>rfl
 ·exact Dy hk fun J J J=>rfl
 ·exact Kj hk fun J J J J=>rfl
 ·exact Tp hk fun J J J=>rfl
 ·exact Zz hk fun J J J J=>rfl
 ·exact Hq hk fun J J J hk=>Zv (band hk).1 rfl
 ·exact A5t hk fun J J J J J=>rfl
 ·exact H4 hk fun J J J J J=>rfl
 ·exact H4 hk fun J J J J J=>rfl
 ·exact H4 hk fun J J J J J=>rfl
 ·exact H4 hk fun J J J J J=>rfl
 ·exact H4 hk fun J J J J J=>rfl
 ·exact H4 hk fun J J J J J=>rfl
 ·exact Iz hk fun J J J J=>rfl
 ·exact Hr hk fun J J J J=>rfl
 ·exact Hr hk fun J J J J=>rfl
 ·exact Hr hk fun J J J J=>rfl
 ·exact Hr hk fun J J J J=>rfl
 ·exact A00 hk fun J J J J J=>rfl
 ·exact Zw hk fun J J J=>rfl
theorem both{ce:CE}(h:EvOk W G n Φ ce)(hp:Vt ce=true):EvOk W G n Φ ce∧TrOk W G n Φ ce:=
 ⟨h,fun J J J J J J J J J J hk hA C hne=>Ys h (A1z hk hp) hk hA C hne⟩
theorem A4v:EvOk W G n Φ .dead∧TrOk W G n Φ .dead:=
 ⟨fun cx e m ρ σ A fr env P η s J J J hne=>absurd (rfl) hne,fun cx e ρ σ A fr env P η s J J J hne=>absurd (rfl) hne⟩
variable (hG:GlOK W G) (hΦ:K3 W G n Φ) (hS:Mo W)
include hG hΦ hS
mutual
theorem B0:∀(ce:CE),EvOk W G n Φ ce∧TrOk W G n Φ ce
 |.cst x=>both A8q rfl
 |.var d i=>both A8h rfl
 |.glb v=>both (A8o hG) rfl
 |.tupE es=>both (A8i hG (Cf es).1) rfl
 |.lstE es=>both (A8m hG (Cf es).1) rfl
 |.dctE ks es=>both (A8p hG (Cf es).2.2.2.1) rfl
 |.boolE k es=>A4x (Cf es).2.1 (Cf es).2.2.1
 |.notE a=>⟨A8k (B0 a).1,A6m (B0 a).2⟩
 |.negE a=>both (A8l (B0 a).1) rfl
 |.bin op a b=>both (A8s hG (B0 a).1 (B0 b).1) rfl
 |.ite c a b=>⟨A8n (B0 c).2 (B0 a).1 (B0 b).1,A6n (B0 c).2 (B0 a).2 (B0 b).2⟩
 |.cmp op a b=>A8r hG (B0 a).1 (B0 b).1
 |.callF f es=>both (A1g hG hΦ (Cf es).1) rfl
 |.callC c es=>both (A1h hG hΦ (Cf es).1) rfl
 |.callB b es=>both (A1i hG hS (Cf es).1) rfl
 |.meth k o es=>both (A4t hG (B0 o).1 (Cf es).1) rfl
 |.methF f nm o es=>both (A1f hG hΦ (B0 o).1 (Cf es).1) rfl
 |.sdApp o k d i=>both (A1e hG (B0 o).1 (B0 k).1) rfl
 |.attr o a=>both (A4y hG (B0 o).1) rfl
 |.sub o i=>both (A8j hG (B0 o).1 (B0 i).1) rfl
 |.slcTo o i=>both (A1d hG (B0 o).1 (B0 i).1) rfl
 |.slcFrom o i=>both (Uc hG (B0 o).1 (B0 i).1) rfl
 |.slcRev o=>both (Xy hG (B0 o).1) rfl
 |.comp elt it ifs nv=>both (A4w hG (B0 it).1 (B0 elt).1 (Cf ifs).2.2.2.2.2.1) rfl
 |.fstr es=>both (A4u (Cf es).2.2.2.2.1 (Cf es).2.2.2.2.2.2) rfl
 |.dead=>A4v
theorem Cf:∀(es:CEs),Fz W G n Φ es∧BoOk W G n Φ es∧T4 W G n Φ es∧PrOk W G n Φ es∧TxOk W G n Φ es∧Ik W G n Φ es∧(∀e r,es=.cons e r→EvOk W G n Φ e)
 |.nil=>⟨A4s,A93,all_nil,A7o,A6k,A4h,fun J J h=>by cases h⟩
 |.cons e r=>⟨A1c (B0 e).1 (Cf r).1,A56 (B0 e).1 (Cf r).2.1,all_cons (B0 e).2 (Cf r).2.2.1,A3m (B0 e).1 (Cf r).2.2.2.1,A2u (B0 e).1 (Cf r).2.2.2.2.1,A10 (B0 e).2 (Cf r).2.2.2.2.2.1,
  fun e' r' h=>by cases h;exact(B0 e).1⟩
end
end
end Mine.Internal
namespace Mine.Internal
open PySem PySem.W PyProof.Rows PySem.SeqAt PySem.MeetsSeq PySem.Calls
variable {W:Wd} {P P' P0:GM} {fr:List Env} {h h' h0:Heap} {η η':List Addr} {σ σ':Sto}
noncomputable def Ct(W:Wd)(h0:Heap):Prop:=∀b o,W.base.get? b=some o→h0.get? b≠none
theorem Ct.fresh(x:Ct W h0){b:Addr}(e:h0.get? b=none):W.base.get? b=none:=by
 cases q:W.base.get? b with
 |none=>rfl
 |some o=>exact absurd e (x b o q)
theorem Inv.baseIn(I:Inv W P fr h):Ct W h:=fun b o e=>by rw[(I.base b o e).1];simp
inductive FlyT(W:Wd)(P:GM)(h0 h:Heap)(m:PV)(a:Addr):Prop
 |mk (oe:Obj) (vs:Array Value) (d:Addr) (md:Str→Option Value) (v:Value) (T:Addr) (oT:Obj) (ts:Array Value) (f:Value) (x1:h0.get? a=none) (x2:P a=none) (x3:h.get? a=some oe) (x4:oe.cls=.ref (W.cls 2)) (x5:oe.dict=some d) (x6:oe.data=.fields vs)
  (x7:h0.get? d=none) (x8:P d=none) (x9:d≠a) (x10:h.Ns1 d md) (x11:md (sv cMsg)=some v) (x12:Rv W P m v)
  (y0:vs[1]?=some (.ref T)) (y1:h0.get? T=none) (y2:P T=none) (y3:T≠a) (y4:T≠d) (y5:h.get? T=some oT) (y6:oT.data=.fields ts) (y7:ts[3]?=some f):FlyT W P h0 h m a
theorem FlyT.fly{m:PV}{a:Addr}(x:FlyT W P h0 h m a):Fly W P h0 h m a:=by
 obtain⟨oe,vs,d,md,v,T,oT,ts,f,x1,x2,x3,x4,x5,x6,x7,x8,x9,x10,x11,x12,y0,y1,y2,y3,y4,y5,y6,y7⟩:=x
 exact⟨oe,vs,d,md,v,x1,x2,x3,x4,x5,x6,x7,x8,x9,x10,x11,x12,.inr ⟨T,oT,ts,f,y0,y1,y2,y3,y4,y5,y6,y7⟩⟩
theorem Yi{a:Addr}{m:Str→Option Value}(x:h.Ns1 a m)(e:∀o,h.get? a=some o→∃sl,h'.get? a=some {o with slots:=sl}):h'.Ns1 a m:=by
 obtain⟨o,es,ep,ho,r⟩:=x
 obtain⟨sl,e1⟩:=e o ho
 exact⟨_,es,ep,e1,r⟩
theorem Fly.slots{m:PV}{a:Addr}(x:Fly W P h0 h m a)(e:∀b o,h.get? b=some o→∃sl,h'.get? b=some {o with slots:=sl}):Fly W P h0 h' m a:=by
 obtain⟨oe,vs,d,md,v,x1,x2,x3,x4,x5,x6,x7,x8,x9,x10,x11,x12,x13⟩:=x
 obtain⟨sl,e1⟩:=e a oe x3
 refine⟨_,vs,d,md,v,x1,x2,e1,x4,x5,x6,x7,x8,x9,Yi x10 (e d),x11,x12,?_⟩
 rcases x13 with y|⟨T,oT,ts,f,y0,y1,y2,y3,y4,y5,y6,y7⟩
 ·exact .inl y
 ·obtain⟨sl2,e2⟩:=e T oT y5
  exact .inr ⟨T,_,ts,f,y0,y1,y2,y3,y4,e2,y6,y7⟩
theorem Wy(st:Stp fr P0 h0 P h)(I:Inv W P fr h)(x:Heap.SlotsOnly (fr.filterMap (·.frame)) h h'):Stp fr P0 h0 P h'∧Inv W P fr h':=by
 have out:∀b,(∀env∈fr,env.frame≠some b)→b∉fr.filterMap (·.frame):=fun b hb hm=>by
  obtain⟨env,he,hf⟩:=List.mem_filterMap.mp hm
  exact hb env he hf
 constructor
 ·refine⟨st.le,st.new,st.dom,fun b o e hp=>?_⟩
  obtain⟨sl,e1,k⟩:=st.keep b o e hp
  obtain⟨sl2,e2⟩:=x.2.2 b _ e1
  refine⟨sl2,e2,fun nf=>?_⟩
  have:=(x.2.1 b (out b nf)).trans e1
  rw[this]at e2
  have:=congrArg Obj.slots (Option.some.inj e2)
  rw[←k nf];exact this.symm
 ·refine⟨fun a g e=>(I.gh a g e).keeps fun o q=>(x.2.1 a (out a (S8 I (by rw[e];simp)))).trans q,fun a o e=>?_,I.sys,fun env he=>?_⟩
  ·obtain⟨e1,q⟩:=I.base a o e
   refine⟨(x.2.1 a (out a fun env he hf=>?_)).trans e1,q⟩
   obtain⟨L,m,hL,_,_,hb,_⟩:=I.frames env he
   rw[hf]at hL;cases hL
   rw[e]at hb;cases hb
  ·refine(let GG:=_;(?_:GG))
   obtain⟨L,m,hL,hk,hn,hb,hp⟩:=I.frames env he
   exact⟨L,m,hL,hk,Ij hn (x.2.2 L),hb,hp⟩
section
variable {A:Around} {E:Value→Shared→Prop} {s:Shared} {M:Model} {env:Env} {outer:List Env} {L a:Addr} {m:PV}
theorem U0(I:Inv W P fr h){base:Heap}(hb:∀L,(∃e∈fr,e.frame=some L)→base.get? L=none):h.FunFrames base fr:=by
 have key:∀(l:List Env),(∀e∈l,e∈fr)→h.FunFrames base l:=by
  intro l
  induction l with
  |nil=>intro _;trivial
  |cons e r ih=>
   intro hl
   obtain⟨L,m,a,b,⟨o,es,ep,ho,hd,_⟩,_⟩:=I.frames e (hl e List.mem_cons_self)
   exact⟨b,⟨L,o,a,hb L ⟨e,hl e List.mem_cons_self,a⟩,ho,fun vs q=>by rw[hd]at q;cases q⟩,ih fun x hx=>hl x (List.mem_cons_of_mem _ hx)⟩
 exact key fr fun J h=>h
theorem Nn(I:Inv W P fr h){b:Addr}{o:Obj}{vs:Array Value}(e:h.get? b=some o)(hd:o.data=.fields vs):∀env∈fr,env.frame≠some b:=fun env he hf=>by
 obtain⟨L,m,a,_,⟨o',es,ep,ho,hd',_⟩,_⟩:=I.frames env he
 rw[hf]at a;cases a
 rw[e]at ho;cases ho
 rw[hd]at hd';cases hd'
theorem Xk{o:Obj}(f):(o.mapFields f).dict=o.dict:=by obtain⟨c,d,dt,sl⟩:=o;induction dt using PySem.Data.casesOn<;>rfl
theorem Sd{head:Value}{hadNext:Bool}{Q:Unit→Shared→Prop}(hfr:A.frames=some (env::outer))(hf:env.frame=some L)(hB:Ct W h0)
 (st:Stp (env::outer) P0 h0 P s.heap) (I:Inv W P (env::outer) s.heap) (F:Fly W P h0 s.heap m a)
 (hQ:∀h',Stp (env::outer) P0 h0 P h'→Inv W P (env::outer) h'→FlyT W P h0 h' m a→Q () {s with heap:=h'}):
 wpAny M A (do let a'←frameOf env;let pl←entryPlaceOf L hadNext;let b←EntryCells.newEntry head a' .none (rawInt L) .none pl;setField (.ref a) 1 b) Q E s:=by
 refine wpAny_bind (wpAny_frameOf_fun hfr (U0 (base:=⟨#[],default⟩) I fun L J=>rfl) hf fun h₁ hs₁=>?_)
 refine wpAny_bind (wpAny_entryPlaceOf fun pl hpl=>?_)
 obtain⟨st1,I1⟩:=Wy st I hs₁
 have F1:=F.slots hs₁.2.2
 unfold EntryCells.newEntry newFields
 refine wpAny_bind (wpAny_newObj_type ?_ (hpl.sizeOk5 _ _ _ _ _))
 dsimp only
 generalize hto:({cls:=.type "traceback",dict:=none,data:=.fields ([head,.ref L,.none,rawInt L,.none]++(if pl.isEmpty then List.replicate 6 Value.none else pl)).toArray}:Obj)=to
 obtain⟨oe,vs,d,md,v,x1,x2,x3,x4,x5,x6,x7,x8,x9,x10,x11,x12,x13⟩:=F1
 have hn1:h₁.get? h₁.objs.size=none:=Ak h₁
 have kp:=Ah h₁ to
 have e2:=kp a oe x3
 have hTn:h0.get? h₁.objs.size=none:=st1.live I1 hn1
 have hTa:h₁.objs.size≠a:=Nat.ne_of_gt (Heap.lt_size x3)
 have hTd:h₁.objs.size≠d:=by obtain⟨od,_,_,hod,_⟩:=id x10;exact Nat.ne_of_gt (Heap.lt_size hod)
 have hsz:1<vs.size:=by
  rcases x13 with y|⟨T,oT,ts,f,y0,_,_,_,_,_,_,_⟩
  ·exact(Array.getElem?_eq_some_iff.mp y).1
  ·exact(Array.getElem?_eq_some_iff.mp y0).1
 refine wpAny_setField e2 x6 hsz ?_
 have hd3:=Obj.data_mapFields x6 (·.setIfInBounds 1 (Value.ref h₁.objs.size))
 have e3:=Heap.get?_update_self (Obj.mapFields (·.setIfInBounds 1 (Value.ref h₁.objs.size))) e2 (Obj.isFreed_of_fields hd3)
 have sb:=(Heap.SameBut.update (h₁.push to) a (Obj.mapFields (·.setIfInBounds 1 (Value.ref h₁.objs.size)))).extBut
 have eb:Heap.ExtBut a h₁ ((h₁.push to).update a (Obj.mapFields (·.setIfInBounds 1 (Value.ref h₁.objs.size)))):=fun b o hb e=>sb b o hb (kp b o e)
 have hgT:(h₁.push to).get? h₁.objs.size=some to:=Heap.get?_push_size _ (by rw[←hto];rfl)
 refine hQ _ (Bi st1 x1 eb) (Bj I1 x2 (hB.fresh x1) (fun env he hf=>absurd hf (Nn I1 x3 x6 env he)) eb) ?_
 have hdt:to.data=.fields ([head,.ref L,.none,rawInt L,.none]++(if pl.isEmpty then List.replicate 6 Value.none else pl)).toArray:=by rw[←hto]
 refine⟨_,_,d,md,v,h₁.objs.size,to,_,rawInt L,x1,x2,e3,(Obj.cls_mapFields _ _).trans x4,(Xk _).trans x5,hd3,x7,x8,x9,x10.at fun o e=>eb d o x9 e,x11,x12,by simp[hsz],hTn,Ad I1 hn1,hTa,hTd,sb _ _ hTa hgT,hdt,?_⟩
 ·first|(simp;done)|(rcases hpl with rfl|⟨_,_,_,_,_,_,_,rfl⟩<;>simp)
theorem Vz{Q:Unit→Shared→Prop}{x:Value}(hB:Ct W h0)(st:Stp fr P0 h0 P s.heap)(I:Inv W P fr s.heap){T:Addr}{oT:Obj}{ts:Array Value}
 {oe:Obj} {vs:Array Value} {d:Addr} {md:Str→Option Value} {v:Value} {f:Value}
 (F:h0.get? a=none∧P a=none∧s.heap.get? a=some oe∧oe.cls=.ref (W.cls 2)∧oe.dict=some d∧oe.data=.fields vs∧
 h0.get? d=none∧P d=none∧d≠a∧s.heap.Ns1 d md∧md (sv cMsg)=some v∧Rv W P m v∧
 vs[1]?=some (.ref T)∧h0.get? T=none∧P T=none∧T≠a∧T≠d∧s.heap.get? T=some oT∧oT.data=.fields ts∧ts[3]?=some f)
 (hQ:∀h',Stp fr P0 h0 P h'→Inv W P fr h'→FlyT W P h0 h' m a→Q () {s with heap:=h'}):wpAny M A (setField (.ref T) 3 x) Q E s:=by
 refine(let GG:=_;(?_:GG))
 obtain⟨x1,x2,x3,x4,x5,x6,x7,x8,x9,x10,x11,x12,y0,y1,y2,y3,y4,y5,y6,y7⟩:=F
 have hsz:3<ts.size:=(Array.getElem?_eq_some_iff.mp y7).1
 refine wpAny_setField y5 y6 hsz ?_
 have hd3:=Obj.data_mapFields y6 (·.setIfInBounds 3 x)
 have e3:=Heap.get?_update_self (Obj.mapFields (·.setIfInBounds 3 x)) y5 (Obj.isFreed_of_fields hd3)
 have eb:=(Heap.SameBut.update s.heap T (Obj.mapFields (·.setIfInBounds 3 x))).extBut
 exact hQ _ (Bi st y1 eb) (Bj I y2 (hB.fresh y1) (fun env he hf=>absurd hf (Nn I y5 y6 env he)) eb)
  ⟨oe,vs,d,md,v,T,_,_,x,x1,x2,eb _ _ y3.symm x3,x4,x5,x6,x7,x8,x9,x10.at fun o e=>eb d o y4.symm e,x11,x12,y0,y1,y2,y3,y4,e3,hd3,by simp[hsz]⟩
theorem Pc{Q:Unit→Shared→Prop}(hfr:A.frames=some (env::outer))(hf:env.frame=some L)(hB:Ct W h0)
 (st:Stp (env::outer) P0 h0 P s.heap) (I:Inv W P (env::outer) s.heap) (F:Fly W P h0 s.heap m a)
 (hQ:∀h',Stp (env::outer) P0 h0 P h'→Inv W P (env::outer) h'→FlyT W P h0 h' m a→Q () {s with heap:=h'}):wpAny M A (noteFrame (.ref a) env) Q E s:=by
 have F0:=F
 obtain⟨oe,vs,d,md,v,x1,x2,x3,x4,x5,x6,x7,x8,x9,x10,x11,x12,x13⟩:=F
 unfold noteFrame
 simp only[hf]
 rcases x13 with y|⟨T,oT,ts,f,y0,y1,y2,y3,y4,y5,y6,y7⟩
 ·refine wpAny_bind (wpAny_field x3 x6 y ?_)
  rw[if_neg (by decide)]
  exact Sd hfr hf hB st I F0 hQ
 ·refine wpAny_bind (wpAny_field x3 x6 y0 ?_)
  rw[if_pos (show(Value.ref T !=Value.none)=true from by simp)]
  refine wpAny_bind (wpAny_field y5 y6 y7 ?_)
  by_cases hq:(f==rawInt L)=true
  ·rw[if_pos hq]
   exact wpAny_pure (hQ _ st I ⟨oe,vs,d,md,v,T,oT,ts,f,x1,x2,x3,x4,x5,x6,x7,x8,x9,x10,x11,x12,y0,y1,y2,y3,y4,y5,y6,y7⟩)
  ·rw[if_neg hq]
   refine wpAny_bind (Vz hB st I ⟨x1,x2,x3,x4,x5,x6,x7,x8,x9,x10,x11,x12,y0,y1,y2,y3,y4,y5,y6,y7⟩ fun h1 st1 I1 F1=>?_)
   exact Sd hfr hf hB st1 I1 F1.fly hQ
theorem Gd{Q:Unit→Shared→Prop}{to:Option Addr}(hB:Ct W h0)(st:Stp fr P0 h0 P s.heap)(I:Inv W P fr s.heap)(F:FlyT W P h0 s.heap m a)
 (hQ:∀h',Stp fr P0 h0 P h'→Inv W P fr h'→FlyT W P h0 h' m a→Q () {s with heap:=h'}):wpAny M A (setFlight (.ref a) to) Q E s:=by
 obtain⟨oe,vs,d,md,v,T,oT,ts,f,x1,x2,x3,x4,x5,x6,x7,x8,x9,x10,x11,x12,y0,y1,y2,y3,y4,y5,y6,y7⟩:=F
 unfold setFlight
 refine wpAny_bind (wpAny_field x3 x6 y0 ?_)
 rw[if_pos (show(Value.ref T !=Value.none)=true from by simp)]
 exact Vz hB st I ⟨x1,x2,x3,x4,x5,x6,x7,x8,x9,x10,x11,x12,y0,y1,y2,y3,y4,y5,y6,y7⟩ hQ
theorem Tw{Q:Unit→Shared→Prop}(hfr:A.frames=some (env::outer))(hf:env.frame=some L)(hB:Ct W h0)
 (st:Stp (env::outer) P0 h0 P s.heap) (I:Inv W P (env::outer) s.heap) (F:Fly W P h0 s.heap m a)
 (hQ:∀h',Stp (env::outer) P0 h0 P h'→Inv W P (env::outer) h'→FlyT W P h0 h' m a→Q () {s with heap:=h'}):wpAny M A (leaving env (.ref a)) Q E s:=by
 unfold leaving
 exact wpAny_bind (Pc hfr hf hB st I F fun h1 st1 I1 F1=>Gd hB st1 I1 F1 hQ)
theorem Sk{E':Value→Shared→Prop}(hB:Ct W h0)(st:Stp fr P0 h0 P s.heap)(I:Inv W P fr s.heap)(F:FlyT W P h0 s.heap m a)
 (hQ:∀h',Stp fr P0 h0 P h'→Inv W P fr h'→FlyT W P h0 h' m a→E' (.ref a) {s with heap:=h'}):cameBackBy M A env E' (.ref a) s:=by
 have F0:=F
 obtain⟨oe,vs,d,md,v,T,oT,ts,f,x1,x2,x3,x4,x5,x6,x7,x8,x9,x10,x11,x12,y0,y1,y2,y3,y4,y5,y6,y7⟩:=F
 unfold cameBackBy
 refine wpAny_bind (wpAny_field x3 x6 y0 ?_)
 rw[if_neg (show¬((Value.ref T==Value.none)=true)from by simp)]
 exact Gd hB st I F0 hQ
theorem A05{E':Value→Shared→Prop}(hfr:A.frames=some (env::outer))(hf:env.frame=some L)(hB:Ct W h0)
 (st:Stp (env::outer) P0 h0 P s.heap) (I:Inv W P (env::outer) s.heap) (F:Fly W P h0 s.heap m a)
 (hQ:∀h',Stp (env::outer) P0 h0 P h'→Inv W P (env::outer) h'→FlyT W P h0 h' m a→E' (.ref a) {s with heap:=h'}):notedBy M A env E' (.ref a) s:=
 Pc hfr hf hB st I F hQ
end
end Mine.Internal
namespace Mine.Internal
open PySem PySem.W PyProof.Rows PySem.SeqAt PySem.MeetsSeq PySem.Calls
variable {W:Wd} {P P' P0 P1 P2:GM} {fr:List Env} {h h' h0 h1 h2:Heap} {η η':List Addr} {σ σ':Sto} {env:Env}
noncomputable def O2:List Addr→Heap→Heap
 |[],h=>h
 |a::r,h=>O2 r (h.update a fun J=>{cls:=.none,data:=.freed})
noncomputable def own(env:Env):List Addr:=env.locals::env.cells.map (·.2)
noncomputable def rest(env:Env)(h:Heap):Heap:=O2 (own env) h
theorem M7(h:Heap)(a:Addr):(h.update a fun J=>{cls:=.none,data:=.freed}).get? a=none:=
 Option.eq_none_iff_forall_ne_some.mpr fun o e=>by
  have⟨e1,e2⟩:=Heap.get?_some_iff.mp e
  have e3:=(show(h.objs.modify a fun J=>{cls:=.none,data:=.freed})[a]?=h.objs[a]?.map fun J=>{cls:=.none,data:=.freed}from Array.getElem?_modify.trans (if_pos rfl)).symm.trans e1
  have⟨x,_,e4⟩:=Option.map_eq_some_iff.mp e3
  exact nomatch (congrArg Obj.isFreed e4).trans e2
theorem U9{h:Heap}{a b:Addr}(e:h.get? a=none):(h.update b fun J=>{cls:=.none,data:=.freed}).get? a=none:=by
 by_cases q:b=a
 ·subst q;exact M7 h b
 ·rw[Heap.get?_update_other _ _ q];exact e
theorem Mb(l:List Addr):∀{h:Heap} {a:Addr},h.get? a=none→(O2 l h).get? a=none:=by
 induction l with
 |nil=>
  intro _ _ e
  exact e
 |cons _ r ih=>
  intro _ _ e
  exact ih (U9 e)
theorem Sc:∀(l:List Addr) {h:Heap} {a:Addr},a∈l→(O2 l h).get? a=none
 |b::r,h,a,m=>by
  rcases List.mem_cons.mp m with e|m
  ·subst e;exact Mb r (M7 h a)
  ·exact Sc r m
theorem O1(l:List Addr):∀{h:Heap} {a:Addr},a∉l→(O2 l h).get? a=h.get? a:=by
 induction l with
 |nil=>
  intro _ _ _
  exact rfl
 |cons b r ih=>
  intro h a m
  have e1:a∉r:=fun q=>m (List.mem_cons_of_mem _ q)
  have e2:b≠a:=fun q=>m (by rw[q];exact List.mem_cons_self)
  show(O2 r _).get? a=_
  rw[ih e1,Heap.get?_update_other _ _ e2]
theorem Dc{a:Addr}(e:h.get? a=none):(rest env h).get? a=none:=Mb _ e
theorem Ho{a:Addr}(e:a∈own env):(rest env h).get? a=none:=Sc _ e
theorem G2{a:Addr}{o:Obj}(e:(rest env h).get? a=some o):h.get? a=some o∧a∉own env:=by
 by_cases q:a∈own env
 ·rw[Ho q]at e;cases e
 ·exact⟨(O1 _ q).symm.trans e,q⟩
theorem Cn{a:Addr}(q:a∉own env):(rest env h).get? a=h.get? a:=O1 _ q
theorem Stp.rest(st:Stp fr P h P' h'):Stp fr P (rest env h) P' h' where
 le:=st.le
 new:=fun a e1 e2=>Dc (st.new a e1 e2)
 dom:=st.dom
 keep:=fun a o e hp=>st.keep a o (G2 e).1 hp
theorem Stp.rest0:Stp fr P (Mine.Internal.rest env h) P h:=(Stp.refl fr P h).rest
theorem Stp.transR(x:Stp fr P (Mine.Internal.rest env h) P1 h1)(y:Stp fr P1 (Mine.Internal.rest env h1) P2 h2):Stp fr P (Mine.Internal.rest env h) P2 h2 where
 le:=x.le.trans y.le
 new:=fun a hp hp'=>by
  by_cases q:P1 a=none
  ·cases e:(Mine.Internal.rest env h).get? a with
   |none=>rfl
   |some o=>
    obtain⟨sl,e1,_⟩:=x.keep a o e hp
    have:=y.new a q hp'
    rw[Cn (G2 e).2,e1]at this;cases this
  ·exact x.new a hp q
 dom:=fun a h=>y.dom a (x.dom a h)
 keep:=fun a o e hp=>by
  obtain⟨sl,e1,k1⟩:=x.keep a o e hp
  have hp':P1 a=none:=x.none' hp e
  obtain⟨sl',e2,k2⟩:=y.keep a _ ((Cn (G2 e).2).trans e1) hp'
  exact⟨sl',e2,fun hf=>(k2 hf).trans (k1 hf)⟩
theorem Stp.transF(hO:∀a∈own env,h0.get? a=none)(x:Stp fr P h0 P1 h1)(y:Stp fr P1 (Mine.Internal.rest env h1) P2 h2):Stp fr P h0 P2 h2 where
 le:=x.le.trans y.le
 new:=fun a hp hp'=>by
  by_cases q:P1 a=none
  ·cases e:h0.get? a with
   |none=>rfl
   |some o=>
    obtain⟨sl,e1,_⟩:=x.keep a o e hp
    have:=y.new a q hp'
    rw[Cn (fun z=>by rw[hO a z]at e;cases e),e1]at this;cases this
  ·exact x.new a hp q
 dom:=fun a h=>y.dom a (x.dom a h)
 keep:=fun a o e hp=>by
  obtain⟨sl,e1,k1⟩:=x.keep a o e hp
  have hp':P1 a=none:=x.none' hp e
  obtain⟨sl',e2,k2⟩:=y.keep a _ ((Cn (fun z=>by rw[hO a z]at e;cases e)).trans e1) hp'
  exact⟨sl',e2,fun hf=>(k2 hf).trans (k1 hf)⟩
theorem Nh(x:Stp fr P (Mine.Internal.rest env h) P1 h1)(I1:Inv W P1 fr h1){a:Addr}(e:(Mine.Internal.rest env h1).get? a=none):(Mine.Internal.rest env h).get? a=none:=by
 cases q:(Mine.Internal.rest env h).get? a with
 |none=>rfl
 |some o=>
  exfalso
  rw[Cn (G2 q).2]at e
  by_cases hp:P a=none
  ·obtain⟨sl,e1,_⟩:=x.keep a o q hp
   rw[e]at e1;cases e1
  ·exact I1.live (x.dom a hp) e
theorem U8(hO:∀a∈own env,h0.get? a=none)(x:Stp fr P h0 P1 h1)(I1:Inv W P1 fr h1){a:Addr}(e:(Mine.Internal.rest env h1).get? a=none):h0.get? a=none:=by
 by_cases q:a∈own env
 ·exact hO a q
 ·exact x.live I1 ((Cn q).symm.trans e)
section
variable {cx:Cx} {ρ:PEnv}
theorem EnvR.baseIn(I:Inv W P fr h)(hl:W.base.get? env.locals=none)(hc:∀x c,env.cells.lookup x=some c→W.base.get? c=none)(hn:∀c∈env.cells.map (·.2),∃x,env.cells.lookup x=some c):Ct W (Mine.Internal.rest env h):=fun b o e q=>by
 have hb:b∉own env:=fun m=>by
  rcases List.mem_cons.mp m with z|m
  ·subst z;rw[hl]at e;cases e
  ·obtain⟨x,hx⟩:=hn b m
   rw[hc x b hx]at e;cases e
 rw[Cn hb,(I.base b o e).1]at q;cases q
end
structure FnCx(cx:Cx)(len:Nat):Prop where
 tbl:∀x d i,cx.tbl.lookup x=some (d,i)→d=0∧i<len∧(cx.names.lookup x=some .local∨cx.names.lookup x=some .cell)
 inj:∀x y i,cx.tbl.lookup x=some (0,i)→cx.tbl.lookup y=some (0,i)→y=x
structure FnAt(W:Wd)(env:Env):Prop where
 base:∀a∈own env,W.base.get? a=none
theorem FnAt.baseIn(F:FnAt W env)(I:Inv W P fr h):Ct W (Mine.Internal.rest env h):=fun b o e q=>by
 have hb:b∉own env:=fun m=>by rw[F.base b m]at e;cases e
 rw[Cn hb,(I.base b o e).1]at q;cases q
noncomputable def FlR(W:Wd)(P:GM)(η:List Addr):Fl→Flow→Prop
 |.next,.next=>True
 |.ret x,.ret v=>RV (W:=W) P η x v
 |_,_=>False
inductive SQ(W:Wd)(fr:List Env)(cx:Cx)(env:Env)(len:Nat)(P:GM)(η:List Addr)(s:Shared)(res:ResS)(f:Flow)(s':Shared):Prop
 |mk (fl:Fl) (r':List (Option Val)) (σ':Sto) (e:res=.ok (fl,[r'],σ')) (hl:r'.length=len) (h':Heap) (tk:Tok) (P':GM) (η':List Addr) (e2:s'={s with heap:=h',toks:=tk}) (st:Stp fr P (rest env s.heap) P' h') (p:Pre η η') (C:Cur W fr cx env [r'] P' η' σ' h') (r:FlR W P' η' fl f):SQ W fr cx env len P η s res f s'
inductive SE(W:Wd)(fr:List Env)(env:Env)(P:GM)(s:Shared)(res:ResS)(e:Value)(s':Shared):Prop
 |mk (m:PV) (e1:res=.exc m) (o:XQ W fr P {s with heap:=rest env s.heap} m e s'):SE W fr env P s res e s'
theorem Fly.rest{m:PV}{a:Addr}(F:Fly W P h0 h m a):Fly W P (Mine.Internal.rest env h0) h m a:=F.back fun J e=>Dc e
theorem SQ.trans{s:Shared}{hp:Heap}{tk1:Nat}{s':Shared}{η1:List Addr}{cx:Cx}{len:Nat}{res:ResS}{f:Flow}(st:Stp fr P (rest env s.heap) P1 hp)(p:Pre η η1)
 (o:SQ W fr cx env len P1 η1 {s with heap:=hp,toks:=tk1} res f s'):SQ W fr cx env len P η s res f s':=by
 obtain⟨fl,r',σ',e,hl,h',tk,P',η',e2,a,b,c,d⟩:=o
 exact⟨fl,r',σ',e,hl,h',tk,P',η',e2,st.transR a,p.trans b,c,d⟩
theorem SE.trans{s:Shared}{hp:Heap}{tk1:Nat}{e:Value}{s':Shared}{res:ResS}(st:Stp fr P (rest env s.heap) P1 hp)(I1:Inv W P1 fr hp)
 (o:SE W fr env P1 {s with heap:=hp,toks:=tk1} res e s'):SE W fr env P s res e s':=by
 obtain⟨m,e1,h',tk,P',a,e2,e3,b,c,f⟩:=o
 exact⟨m,e1,h',tk,P',a,e2,e3,st.transR b,c,f.back fun b e=>Nh st I1 e⟩
section
variable {A:Around} {s:Shared} {α α' β:Type} {cx:Cx} {len:Nat} {ρ:PEnv} {M:Model}
theorem evS{X:α→(Flow→Shared→Prop)→(Value→Shared→Prop)→Shared→Prop}(hX:∀v Q Q' E E' s,X v Q E s→(∀u s',Q u s'→Q' u s')→(∀e s',E e s'→E' e s')→X v Q' E' s)
 {t:Sem α} {r:Res (β×Sto)} {f:β×Sto→ResS} {Rel:β→α→GM→List Addr→Prop}
 (C:Cur W fr cx env ρ P η σ s.heap) (hne:r.bind f≠.stk) (h1:r≠.stk→wpAny M A t (QQ W fr P η s Rel r) (EE W fr P s r) s)
 (h2:∀b v σ1 h1 tk1 P1 η1,r=.ok (b,σ1)→f (b,σ1)≠.stk→Stp fr P s.heap P1 h1→Pre η η1→Cur W fr cx env ρ P1 η1 σ1 h1→Rel b v P1 η1→
  X v (SQ W fr cx env len P1 η1 {s with heap:=h1,toks:=tk1} (f (b,σ1))) (SE W fr env P1 {s with heap:=h1,toks:=tk1} (f (b,σ1))) {s with heap:=h1,toks:=tk1}):
 wpAny M A t (fun v s1=>X v (SQ W fr cx env len P η s (r.bind f)) (SE W fr env P s (r.bind f)) s1) (SE W fr env P s (r.bind f)) s:=by
 refine wpAny_mono (h1 (D3 hne)) (fun v s1 q=>?_) (fun e s1 q=>?_)
 ·obtain⟨b,σ1,rfl,hp,tk,P1,η1,rfl,st,p,I1,S1,rel⟩:=q
  exact hX _ _ _ _ _ _ (h2 b v σ1 hp tk P1 η1 rfl hne st p (C.step st p I1 S1) rel) (fun u s2 q=>SQ.trans st.rest p q) (fun e s2 q=>SE.trans st.rest I1 q)
 ·refine(let GG:=_;(?_:GG))
  obtain⟨m,rfl,h',tk,P',a,e2,e3,b,c,f⟩:=q
  exact⟨m,rfl,h',tk,P',a,e2,e3,b.rest,c,f.rest⟩
theorem stS{X:Flow→(Flow→Shared→Prop)→(Value→Shared→Prop)→Shared→Prop}(hX:∀v Q Q' E E' s,X v Q E s→(∀u s',Q u s'→Q' u s')→(∀e s',E e s'→E' e s')→X v Q' E' s)
 {t:Sem Flow} {r:ResS} {f:Fl×PEnv×Sto→ResS}
 (hne:r.bind f≠.stk) (h1:r≠.stk→wpAny M A t (SQ W fr cx env len P η s r) (SE W fr env P s r) s)
 (h2:∀fl r' v σ1 h1 tk1 P1 η1,r=.ok (fl,[r'],σ1)→r'.length=len→f (fl,[r'],σ1)≠.stk→Cur W fr cx env [r'] P1 η1 σ1 h1→FlR W P1 η1 fl v→
  X v (SQ W fr cx env len P1 η1 {s with heap:=h1,toks:=tk1} (f (fl,[r'],σ1))) (SE W fr env P1 {s with heap:=h1,toks:=tk1} (f (fl,[r'],σ1))) {s with heap:=h1,toks:=tk1}):
 wpAny M A t (fun v s1=>X v (SQ W fr cx env len P η s (r.bind f)) (SE W fr env P s (r.bind f)) s1) (SE W fr env P s (r.bind f)) s:=by
 refine wpAny_mono (h1 (D3 hne)) (fun v s1 q=>?_) (fun e s1 q=>?_)
 ·obtain⟨fl,r',σ1,rfl,hl,hp,tk,P1,η1,rfl,st,p,C1,rel⟩:=q
  exact hX _ _ _ _ _ _ (h2 fl r' v σ1 hp tk P1 η1 rfl hl hne C1 rel) (fun u s2 q=>SQ.trans st p q) (fun e s2 q=>SE.trans st C1.I q)
 ·obtain⟨m,rfl,o⟩:=q
  exact⟨m,rfl,o⟩
theorem Hf(hF:FnCx cx len){r:List (Option Val)}(hl:r.length=len)(C:Cur W fr cx env [r] P η σ s.heap){x:Str}{i:Nat}{z:Val}{v:Value}{Q:Unit→Shared→Prop}{E:Value→Shared→Prop}
 (ht:cx.tbl.lookup x=some (0,i)) (rv:RV (W:=W) P η z v)
 (hQ:∀h' tk b,(b=env.locals∨env.cells.lookup x=some b)→Heap.SameBut b s.heap h'→Stp fr P (rest env s.heap) P h'→Cur W fr cx env [r.set i (some z)] P η σ h'→Q () {s with heap:=h',toks:=tk}):wpAny M A (storeName env x v) Q E s:=by
 obtain⟨_,hi,hk⟩:=hF.tbl x 0 i ht
 refine Nd C.R C.I ht (fun y e=>hF.inj x y i ht e) hk ⟨r,[],rfl,by rw[hl];exact hi⟩ rv fun h' tk b hb hsb R' I'=>?_
 have hbo:b∈own env:=by
  rcases hb with rfl|⟨hb,_⟩
  ·exact List.mem_cons_self
  ·exact List.mem_cons_of_mem _ (List.mem_map.mpr ⟨(x,b),mem_of_lookup hb,rfl⟩)
 exact hQ h' tk b (hb.imp id fun z=>z.1) hsb (Bi Stp.rest0 (Ho hbo) hsb.extBut) ⟨I',C.S,R'⟩
end
end Mine.Internal
namespace Mine.Internal
open PySem PySem.W PyProof.Rows PySem.SeqAt PySem.MeetsSeq PySem.Calls
variable {W:Wd} {P P' P0 P1 P2:GM} {fr:List Env} {h h' h0 h1 h2:Heap} {η η':List Addr} {σ σ':Sto} {env:Env}
noncomputable def W3(cx:Cx)(i:Nat)(e:Expr):Bool:=Id e fun x=>cx.tbl.lookup x==some (0,i)
noncomputable def Gg(cx:Cx):List Nat→List Expr→Bool
 |[],xs=>xs.isEmpty
 |i::is,xs=>Du xs fun e es=>W3 cx i e&&Gg cx is es
noncomputable def Ep(e:Expr):Bool:= !(e.ctorIdx==8)&& !(e.ctorIdx==9)&& !(e.ctorIdx==10)
noncomputable def noSD(e:Expr):Bool:= !(e.ctorIdx==9)&& !(e.ctorIdx==10)
noncomputable def A0v(e:Expr):Bool:=e.ctorIdx==16
@[elab_as_elim] theorem Rm{e:Expr}{R:Expr→Prop}(h:A0v e=true)(c:∀f xs ks p,R (.Call f xs ks p)):R e:=Expr.Call.elim (motive_1:=R) e (beqE h) c
@[elab_as_elim] theorem A9t{e:Expr}{R:Expr→Prop}(h:noSD e=true)(hc:¬Ep e=true)(c:∀a b s p,R (.ListComp a b s p)):R e:=by
 have q:e.ctorIdx=8:=by
  revert h hc;unfold noSD Ep
  cases z:e.ctorIdx==8 with
  |true=>exact fun J J=>beqE z
  |false=>exact fun h hc=>absurd h hc
 exact Expr.ListComp.elim (motive_1:=R) e q c
@[elab_as_elim] theorem A54{cx:Cx}{a:Expr}{b:List Comprehension}{s:Scope}{p:Pos}{e:CE}{R:CE→Prop}(h:ckE G cx e (.ListComp a b s p)=true)(h0:R .dead)(c:∀elt it ifs nv,R (.comp elt it ifs nv)):R e:=by
 induction e using CE.casesOn<;>first|exact nf h|exact h0|exact c _ _ _ _
noncomputable def Ue(e:Stmt)(k:Expr→Bool):Bool:=if h:e.ctorIdx=24 then Stmt.Expr.elim (motive_2:=fun J=>Bool) e h fun y0 J=>k y0 else false
@[elab_as_elim] theorem A3u{e:Stmt}{k:Expr→Bool}{R:Stmt→Prop}(h:Ue e k=true)(c:∀x a,k x=true→R (.Expr x a)):R e:=onD h fun q h=>Stmt.Expr.elim (motive_2:=fun e=>∀q:e.ctorIdx=24,Stmt.Expr.elim (motive_2:=fun J=>Bool) e q (fun y0 J=>k y0)=true→R e) e q (fun y0 y1 J h=>c y0 y1 h) q h
noncomputable def Wa(e:Stmt)(k:List Expr→Expr→Bool):Bool:=if h:e.ctorIdx=5 then Stmt.Assign.elim (motive_2:=fun J=>Bool) e h fun y0 y1 J=>k y0 y1 else false
@[elab_as_elim] theorem A02{e:Stmt}{k:List Expr→Expr→Bool}{R:Stmt→Prop}(h:Wa e k=true)(c:∀ts x a,k ts x=true→R (.Assign ts x a)):R e:=onD h fun q h=>Stmt.Assign.elim (motive_2:=fun e=>∀q:e.ctorIdx=5,Stmt.Assign.elim (motive_2:=fun J=>Bool) e q (fun y0 y1 J=>k y0 y1)=true→R e) e q (fun y0 y1 y2 J h=>c y0 y1 y2 h) q h
noncomputable def eAug(e:Stmt)(k:Expr→Operator→Expr→Bool):Bool:=if h:e.ctorIdx=7 then Stmt.AugAssign.elim (motive_2:=fun J=>Bool) e h fun y0 y1 y2 J=>k y0 y1 y2 else false
@[elab_as_elim] theorem A9x{e:Stmt}{k:Expr→Operator→Expr→Bool}{R:Stmt→Prop}(h:eAug e k=true)(c:∀t o x a,k t o x=true→R (.AugAssign t o x a)):R e:=onD h fun q h=>Stmt.AugAssign.elim (motive_2:=fun e=>∀q:e.ctorIdx=7,Stmt.AugAssign.elim (motive_2:=fun J=>Bool) e q (fun y0 y1 y2 J=>k y0 y1 y2)=true→R e) e q (fun y0 y1 y2 y3 J h=>c y0 y1 y2 y3 h) q h
noncomputable def eSIf(e:Stmt)(k:Expr→List Stmt→List Stmt→Bool):Bool:=if h:e.ctorIdx=12 then Stmt.If.elim (motive_2:=fun J=>Bool) e h fun y0 y1 y2 J=>k y0 y1 y2 else false
@[elab_as_elim] theorem A9r{e:Stmt}{k:Expr→List Stmt→List Stmt→Bool}{R:Stmt→Prop}(h:eSIf e k=true)(c:∀x t f a,k x t f=true→R (.If x t f a)):R e:=onD h fun q h=>Stmt.If.elim (motive_2:=fun e=>∀q:e.ctorIdx=12,Stmt.If.elim (motive_2:=fun J=>Bool) e q (fun y0 y1 y2 J=>k y0 y1 y2)=true→R e) e q (fun y0 y1 y2 y3 J h=>c y0 y1 y2 y3 h) q h
noncomputable def A1l(e:Stmt)(k:Expr→List Stmt→List Stmt→Bool):Bool:=if h:e.ctorIdx=11 then Stmt.While.elim (motive_2:=fun J=>Bool) e h fun y0 y1 y2 J=>k y0 y1 y2 else false
@[elab_as_elim] theorem A3t{e:Stmt}{k:Expr→List Stmt→List Stmt→Bool}{R:Stmt→Prop}(h:A1l e k=true)(c:∀x t f a,k x t f=true→R (.While x t f a)):R e:=onD h fun q h=>Stmt.While.elim (motive_2:=fun e=>∀q:e.ctorIdx=11,Stmt.While.elim (motive_2:=fun J=>Bool) e q (fun y0 y1 y2 J=>k y0 y1 y2)=true→R e) e q (fun y0 y1 y2 y3 J h=>c y0 y1 y2 y3 h) q h
noncomputable def eFor(e:Stmt)(k:Expr→Expr→List Stmt→List Stmt→Bool):Bool:=if h:e.ctorIdx=9 then Stmt.For.elim (motive_2:=fun J=>Bool) e h fun y0 y1 y2 y3 J=>k y0 y1 y2 y3 else false
@[elab_as_elim] theorem A9u{e:Stmt}{k:Expr→Expr→List Stmt→List Stmt→Bool}{R:Stmt→Prop}(h:eFor e k=true)(c:∀t x b f a,k t x b f=true→R (.For t x b f a)):R e:=onD h fun q h=>Stmt.For.elim (motive_2:=fun e=>∀q:e.ctorIdx=9,Stmt.For.elim (motive_2:=fun J=>Bool) e q (fun y0 y1 y2 y3 J=>k y0 y1 y2 y3)=true→R e) e q (fun y0 y1 y2 y3 y4 J h=>c y0 y1 y2 y3 y4 h) q h
noncomputable def eRet(e:Stmt)(k:Option Expr→Bool):Bool:=if h:e.ctorIdx=3 then Stmt.Return.elim (motive_2:=fun J=>Bool) e h fun y0 J=>k y0 else false
@[elab_as_elim] theorem Zs{e:Stmt}{k:Option Expr→Bool}{R:Stmt→Prop}(h:eRet e k=true)(c:∀x a,k x=true→R (.Return x a)):R e:=onD h fun q h=>Stmt.Return.elim (motive_2:=fun e=>∀q:e.ctorIdx=3,Stmt.Return.elim (motive_2:=fun J=>Bool) e q (fun y0 J=>k y0)=true→R e) e q (fun y0 y1 J h=>c y0 y1 h) q h
noncomputable def A1n(e:Stmt)(k:Option Expr→Option Expr→Bool):Bool:=if h:e.ctorIdx=16 then Stmt.Raise.elim (motive_2:=fun J=>Bool) e h fun y0 y1 J=>k y0 y1 else false
@[elab_as_elim] theorem A3w{e:Stmt}{k:Option Expr→Option Expr→Bool}{R:Stmt→Prop}(h:A1n e k=true)(c:∀x y a,k x y=true→R (.Raise x y a)):R e:=onD h fun q h=>Stmt.Raise.elim (motive_2:=fun e=>∀q:e.ctorIdx=16,Stmt.Raise.elim (motive_2:=fun J=>Bool) e q (fun y0 y1 J=>k y0 y1)=true→R e) e q (fun y0 y1 y2 J h=>c y0 y1 y2 h) q h
noncomputable def eTry(e:Stmt)(k:List Stmt→List ExceptHandler→List Stmt→List Stmt→Bool):Bool:=if h:e.ctorIdx=17 then Stmt.Try.elim (motive_2:=fun J=>Bool) e h fun y0 y1 y2 y3 J=>k y0 y1 y2 y3 else false
@[elab_as_elim] theorem A9p{e:Stmt}{k:List Stmt→List ExceptHandler→List Stmt→List Stmt→Bool}{R:Stmt→Prop}(h:eTry e k=true)(c:∀b hs x y a,k b hs x y=true→R (.Try b hs x y a)):R e:=onD h fun q h=>Stmt.Try.elim (motive_2:=fun e=>∀q:e.ctorIdx=17,Stmt.Try.elim (motive_2:=fun J=>Bool) e q (fun y0 y1 y2 y3 J=>k y0 y1 y2 y3)=true→R e) e q (fun y0 y1 y2 y3 y4 J h=>c y0 y1 y2 y3 y4 h) q h
noncomputable def A68(h:ExceptHandler)(k:Option Expr→Option Str→List Stmt→Bool):Bool:=match h with|.ExceptHandler t n b _=>k t n b
@[elab_as_elim] theorem A7x{h:ExceptHandler}{k:Option Expr→Option Str→List Stmt→Bool}{R:ExceptHandler→Prop}(e:A68 h k=true)(c:∀t n b p,k t n b=true→R (.ExceptHandler t n b p)):R h:=by
 cases h;exact c _ _ _ _ e
noncomputable def A0t(s:Stmt):Bool:=s.ctorIdx==25||Ue s fun x=>H6 x fun c=>eStr c fun J=>true
@[elab_as_elim] theorem A7u{s:Stmt}{R:Stmt→Prop}(h:A0t s=true)(c1:∀p,R (.Pass p))(c2:∀t a b p,R (.Expr (.Constant (.str t) a b) p)):R s:=by
 induction s using PySem.Stmt.casesOn<;>first|exact nf h|exact c1 _|skip
 exact Eo h fun c a b h=>Rl h fun t J=>c2 t a b _
noncomputable def A1m(b:List Stmt)(k:Expr→Bool):Bool:=eOne b fun s=>eRet s fun o=>eSo o k
@[elab_as_elim] theorem Zr{b:List Stmt}{k:Expr→Bool}{R:List Stmt→Prop}(h:A1m b k=true)(c:∀x p,k x=true→R [.Return (some x) p]):R b:=
 E7 h fun J h=>Zs (R:=fun s=>R [s]) h fun J p h=>onSo (R:=fun o=>R [.Return o p]) h fun x=>c x p
noncomputable def A66(s:Stmt)(k:Expr→Expr→Str→Str→Str→Bool):Bool:=eTry s fun b hs x y=>eNil x (eNil y (A1m b fun x=>eOne hs fun hd=>A68 hd fun ty nm bd=>eSo ty fun tn=>eSo nm fun y=>
 A1m bd fun a=>O5 a fun zz n J=>Id zz fun z=>k x tn y z n))
@[elab_as_elim] theorem A7t{s:Stmt}{k:Expr→Expr→Str→Str→Str→Bool}{R:Stmt→Prop}(h:A66 s k=true)
 (c:∀x rp tn y z zp n zp2 rp2 hp tp,k x tn y z n=true→R (.Try [.Return (some x) rp] [.ExceptHandler (some tn) (some y) [.Return (some (.Attribute (.Name z zp) n zp2)) rp2] hp] [] [] tp)):R s:=
 A9p h fun b hs J J tp h=>Jr (R:=fun x=>R (.Try b hs x _ tp)) h fun h=>Jr (R:=fun y=>R (.Try b hs [] y tp)) h fun h=>
  Zr (R:=fun b=>R (.Try b hs [] [] tp)) h fun x rp h=>E7 (R:=fun hs=>R (.Try _ hs [] [] tp)) h fun hd h=>A7x (R:=fun hd=>R (.Try _ [hd] [] [] tp)) h fun ty nm bd hp h=>
  onSo (R:=fun ty=>R (.Try _ [.ExceptHandler ty nm bd hp] [] [] tp)) h fun tn h=>onSo (R:=fun nm=>R (.Try _ [.ExceptHandler _ nm bd hp] [] [] tp)) h fun y h=>
  Zr (R:=fun bd=>R (.Try _ [.ExceptHandler _ _ bd hp] [] [] tp)) h fun J rp2 h=>Iz (R:=fun a=>R (.Try _ [.ExceptHandler _ _ [.Return (some a) rp2] hp] [] [] tp)) h fun J n zp2 h=>
  Dy (R:=fun zz=>R (.Try _ [.ExceptHandler _ _ [.Return (some (.Attribute zz n zp2)) rp2] hp] [] [] tp)) h fun z zp h=>c x rp tn y z zp n zp2 rp2 hp tp h
noncomputable def O6(s:Stmt)(k:Expr→Expr→Bool):Bool:=Wa s fun ts x=>eOne ts fun t=>k t x
@[elab_as_elim] theorem Lu{s:Stmt}{k:Expr→Expr→Bool}{R:Stmt→Prop}(h:O6 s k=true)(c:∀t x p,k t x=true→R (.Assign [t] x p)):R s:=
 A02 h fun J x p h=>E7 (R:=fun ts=>R (.Assign ts x p)) h fun t=>c t x p
noncomputable def A1r(s:Stmt)(k:Expr→Expr→List Stmt→Bool):Bool:=eFor s fun t x a f=>eNil f (k t x a)
@[elab_as_elim] theorem Zy{s:Stmt}{k:Expr→Expr→List Stmt→Bool}{R:Stmt→Prop}(h:A1r s k=true)(c:∀t x a p,k t x a=true→R (.For t x a [] p)):R s:=
 A9u h fun t x a J p h=>Jr (R:=fun f=>R (.For t x a f p)) h (c t x a p)
mutual
noncomputable def ckS(G:Gl)(cx:Cx):CS→Stmt→Bool
 |.expr e,s=>Ue s fun x=>Ep x&&ckE G cx e x
 |.asg i _ e,s=>O6 s fun t x=>W3 cx i t&&(ckE G cx e x&&noSD x)
 |.unp is e,s=>O6 s fun t x=>Pq t fun ts=>Gg cx is ts&&(A0v x&&ckE G cx e x)
 |.setA o a _ e,s=>O6 s fun t x=>O5 t fun o' n J=>n==sv a&&(G.attrs.contains a&&(Ep x&&(ckE G cx o o'&&ckE G cx e x)))
 |.setI o i e,s=>O6 s fun t x=>eSub t fun o' i'=>Ep x&&(Lw i'&&(ckE G cx o o'&&(ckE G cx i i'&&ckE G cx e x)))
 |.aug i op e,s=>eAug s fun t o x'=>Id t fun x=>cx.tbl.lookup x==some (0,i)&&(Bu x&&(A5z op&&(o==bop op&&ckE G cx e x')))
 |.ifS c t f,s=>eSIf s fun x a b=>ckE G cx c x&&(ckSs G cx t a&&ckSs G cx f b)
 |.whl c b,s=>A1l s fun x a f=>eNil f (ckE G cx c x&&ckSs G cx b a)
 |.forS i it b,s=>A1r s fun t x a=>W3 cx i t&&(J0 x&&(ckE G cx it x&&ckSs G cx b a))
 |.forT is it b,s=>A1r s fun t x a=>Pq t fun ts=>Gg cx is ts&&(J0 x&&(ckE G cx it x&&ckSs G cx b a))
 |.ret _ e,s=>eRet s fun o=>eSo o fun x=>ckE G cx e x
 |.retN,s=>eRet s fun o=>eNo o true
 |.raiseS e,s=>A1n s fun a b=>eNo b (eSo a fun c=>Ps c fun f xs J=>eOne xs fun x=>isGl G cx (.ref (G.cls 2)) f&&ckE G cx e x)
 |.tryR e,s=>A66 s fun x tn y z n=>isGl G cx (.ref (G.cls 2)) tn&&(ckE G cx e x&&(y==z&&(Bu y&&(n==sv cMsg&&(cx.names.lookup y==some .local)))))
 |.pass,s=>A0t s
 |.dead,_=>true
noncomputable def ckSs(G:Gl)(cx:Cx):CSs→List Stmt→Bool
 |.nil,xs=>xs.isEmpty
 |.cons s r,xs=>Du xs fun x xs=>ckS G cx s x&&ckSs G cx r xs
end
structure InFn(W:Wd)(A:Around)(fr:List Env)(env:Env)(cx:Cx)(len n:Nat):Prop where
 A:AOK A fr n
 F:FnCx cx len
 at':FnAt W env
 fr:∃outer,fr=env::outer
 L:∃L,env.frame=some L
 mem:∀y c,(y,c)∈env.cells→env.cells.lookup y=some c
 cells:∀y c,env.cells.lookup y=some c→∃d i,cx.tbl.lookup y=some (d,i)∧(cx.names.lookup y=some .cell∨cx.names.lookup y=some .free)
theorem InFn.live{A:Around}{cx:Cx}{len n:Nat}(x:InFn W A fr env cx len n){ρ:PEnv}(R:EnvR W cx env P η h ρ){a:Addr}(ha:a∈own env):∃o,h.get? a=some o:=by
 refine(let GG:=_;(?_:GG))
 rcases List.mem_cons.mp ha with rfl|ha
 ·obtain⟨_,o,_,_,ho,_⟩:=R.ns;exact⟨o,ho⟩
 ·obtain⟨⟨y,c⟩,hm,rfl⟩:=List.mem_map.mp ha
  obtain⟨d,j,e1,hk⟩:=x.cells y c (x.mem y c hm)
  obtain⟨c',u,hc',⟨oc,ho,_⟩,_⟩:=R.free_cell e1 hk
  rw[x.mem y c hm]at hc';cases hc'
  exact⟨oc,ho⟩
section
variable (W:Wd) (G:Gl) (n:Nat) (Φ:Phi)
noncomputable def StOk(cs:CS):Prop:=∀(cx:Cx) (len:Nat) (st:Stmt) (r:List (Option Val)) (σ:Sto) (A:Around) (fr:List Env) (env:Env) (P:GM) (η:List Addr) (s:Shared),ckS G cx cs st=true→InFn W A fr env cx len n→r.length=len→
 Cur W fr cx env [r] P η σ s.heap→ex G.pol Φ cs [r] σ≠.stk→wpAny (md W) A (exec st env) (SQ W fr cx env len P η s (ex G.pol Φ cs [r] σ)) (SE W fr env P s (ex G.pol Φ cs [r] σ)) s
noncomputable def Fy(cs:CSs):Prop:=∀(cx:Cx) (len:Nat) (st:List Stmt) (r:List (Option Val)) (σ:Sto) (A:Around) (fr:List Env) (env:Env) (P:GM) (η:List Addr) (s:Shared),ckSs G cx cs st=true→InFn W A fr env cx len n→r.length=len→
 Cur W fr cx env [r] P η σ s.heap→exs G.pol Φ cs [r] σ≠.stk→wpAny (md W) A (execs st env) (SQ W fr cx env len P η s (exs G.pol Φ cs [r] σ)) (SE W fr env P s (exs G.pol Φ cs [r] σ)) s
end
section
variable {G:Gl} {n:Nat} {Φ:Phi}
theorem SQ.here{cx:Cx}{len:Nat}{r:List (Option Val)}{s:Shared}{res:ResS}{fl:Fl}{f:Flow}{tk:Nat}(hl:r.length=len)(C:Cur W fr cx env [r] P η σ s.heap)(e:res=.ok (fl,[r],σ))(hf:FlR W P η fl f):SQ W fr cx env len P η s res f {s with toks:=tk}:=
 ⟨fl,r,σ,e,hl,s.heap,tk,P,η,rfl,Stp.rest0,.refl _,C,hf⟩
theorem SQ.here0{cx:Cx}{len:Nat}{r:List (Option Val)}{s:Shared}{res:ResS}{fl:Fl}{f:Flow}(hl:r.length=len)(C:Cur W fr cx env [r] P η σ s.heap)(e:res=.ok (fl,[r],σ))(hf:FlR W P η fl f):SQ W fr cx env len P η s res f s:=
 SQ.here (tk:=s.toks) hl C e hf
theorem SQ.toks{cx:Cx}{len:Nat}{s s':Shared}{t:Tok}{res:ResS}{f:Flow}(x:SQ W fr cx env len P η {s with toks:=t} res f s'):SQ W fr cx env len P η s res f s':=by
 obtain⟨fl,r',σ',e,hl,h',tk,P',η',e2,a,b,c,d⟩:=x;exact⟨fl,r',σ',e,hl,h',tk,P',η',e2,a,b,c,d⟩
theorem Ei{x:Expr}{t:Option Expr}{l:Nat}(h:Ep x=true):swapsWith x t l env=pure false:=by
 induction x using PySem.Expr.casesOn<;>first|rfl|exact nf h
theorem Jv{cx:Cx}{ρ:PEnv}(R:EnvR W cx env P η h ρ):interactive env=false:=by unfold interactive;rw[R.kind];rfl
theorem A3a:StOk W G n Φ .dead:=fun cx len st r σ A fr env P η s J J J J hne=>absurd (rfl) hne
theorem A36:StOk W G n Φ .pass:=by
 intro cx len st r σ A fr env P η s hk hI hl C hne
 refine A7u hk (fun p=>?_) (fun t a b p=>?_)
 ·exact wpAny_Pass (SQ.here0 (fl:=.next) hl C (rfl) trivial)
 ·refine wpAny_Expr_any ?_ (Jv C.R) rfl
  exact wpAny_Constant_str (SQ.here (fl:=.next) (tk:=s.toks+1) hl C (rfl) trivial)
theorem A35:StOk W G n Φ .retN:=by
 intro cx len st r σ A fr env P η s hk hI hl C hne
 refine Zs hk fun o p hk=>onNo hk fun hk=>?_
 ·exact wpAny_Return_none (SQ.here0 (fl:=.ret (.v .none)) hl C (rfl) (show RV P η _ _ from .v .none))
theorem A75{m:Bool}{e:CE}(h1:EvOk W G n Φ e):StOk W G n Φ (.ret m e):=by
 intro cx len st r σ A fr env P η s hk hI hl C hne
 refine Zs hk fun o p hk=>onSo hk fun x hk=>?_
 ·refine wpAny_Return_some ?_
  refine evS (X:=fun v Q E s=>Q (.ret v) s) (fun J J J J J J x a J=>a _ _ x) C hne (fun h=>h1 cx x m [r] σ A fr env P η s hk hI.A C h) ?_
  intro b v σ1 hp tk1 P1 η1 _ hf _ _ C1 rel
  exact SQ.here0 hl C1 rfl rel
theorem A39{e:CE}(h1:EvOk W G n Φ e):StOk W G n Φ (.expr e):=by
 intro cx len st r σ A fr env P η s hk hI hl C hne
 refine A3u hk fun x p hk=>?_
 ·have hk:=band hk
  refine wpAny_Expr_any ?_ (Jv C.R) (Ei hk.1)
  refine evS (X:=fun v Q E s=>Q .next s) (fun J J J J J J x a J=>a _ _ x) C hne (fun h=>h1 cx x false [r] σ A fr env P η s hk.2 hI.A C h) ?_
  intro b v σ1 hp tk1 P1 η1 _ hf _ _ C1 rel
  exact SQ.here0 hl C1 rfl trivial
theorem A32:Fy W G n Φ .nil:=by
 intro cx len st r σ A fr env P η s hk hI hl C hne
 induction st using List.casesOn with
 |cons=>exact nf hk
 |nil=>exact wpAny_execs_nil (SQ.here0 (fl:=.next) hl C (rfl) trivial)
set_option backward.match.sparseCases true in
theorem Yx{c:CS}{cs:CSs}(h1:StOk W G n Φ c)(h2:Fy W G n Φ cs):Fy W G n Φ (.cons c cs):=by
 intro cx len st r σ A fr env P η s hk hI hl C hne
 induction st using List.casesOn with
 |nil=>exact nf hk
 |cons x xs=>
  have hk:=band hk
  refine wpAny_execs_cons ?_
  refine stS (X:=fun f Q E s=>match f with|.next=>wpAny (md W) A (execs xs env) Q E s|f=>Q f s) (fun f J J J J J x a b=>by cases f<;>first|exact wpAny_mono x a b|exact a _ _ x) hne (fun h=>h1 cx len x r σ A fr env P η s hk.1 hI hl C h) ?_
  intro fl r' v σ1 hp tk1 P1 η1 _ hl1 hf C1 rel
  induction fl using Fl.casesOn with
  |next=>cases v<;>first|exact h2 cx len xs r' σ1 A fr env P1 η1 _ hk.2 hI hl1 C1 hf|exact rel.elim
  |ret x=>cases v<;>first|exact SQ.here0 hl1 C1 rfl rel|exact rel.elim
set_option tactic.hygienic true in
theorem A9d{c:CE}{t f:CSs}(h1:TrOk W G n Φ c)(h2:Fy W G n Φ t)(h3:Fy W G n Φ f):StOk W G n Φ (.ifS c t f):=by
 intro cx len st r σ A fr env P η s hk hI hl C hne
 refine A9r hk fun x a b p=>Ae fun hk1 hk=>?_
 ·have hk:=And.intro (And.intro hk1 (band hk).1) (band hk).2
  refine wpAny_If ?_
  refine evS (X:=fun v Q E s=>if v then wpAny (md W) A (execs a env) Q E s else wpAny (md W) A (execs b env) Q E s) (fun v J J J J J x a b=>by induction v using Bool.casesOn<;>exact wpAny_mono x a b) C hne (fun h=>h1 cx x [r] σ A fr env P η s hk.1.1 hI.A C h) ?_
  intro b' v σ1 hp tk1 P1 η1 _ hf _ _ C1 rel
  have rel:v=b':=rel
  subst rel
  induction v using Bool.casesOn with
  |true=>exact h2 cx len a r σ1 A fr env P1 η1 _ hk.1.2 hI hl C1 hf
  |false=>exact h3 cx len b r σ1 A fr env P1 η1 _ hk.2 hI hl C1 hf
theorem Hz{cx:Cx}{i:Nat}{t:Expr}(h:W3 cx i t=true):∃x p,t=.Name x p∧cx.tbl.lookup x=some (0,i):=by
 exact Dy h fun x p h=>⟨x,p,rfl,beqE h⟩
theorem Of{cx:Cx}{len:Nat}{A:Around}(hI:InFn W A fr env cx len n){r:List (Option Val)}{s:Shared}(hl:r.length=len)(C:Cur W fr cx env [r] P η σ s.heap){x:Str}{i:Nat}{z:Val}{v:Value}{E:Value→Shared→Prop}{M:Model}
 (ht:cx.tbl.lookup x=some (0,i)) (rv:RV (W:=W) P η z v):wpAny M A (storeName env x v) (fun J=>SQ W fr cx env len P η s (.ok (.next,setV [r] i z,σ)) .next) E s:=
 Hf hI.F hl C ht rv fun h' tk b hb hsb st C'=>⟨.next,r.set i (some z),σ,rfl,by rw[List.length_set];exact hl,h',tk,P,η,rfl,st,.refl _,C',trivial⟩
theorem A76{i:Nat}{op:Bop}{e:CE}(h1:EvOk W G n Φ e):StOk W G n Φ (.aug i op e):=by
 intro cx len st r σ A fr env P η s hk hI hl C hne
 refine A9x hk fun t0 o x' p hk=>Dy hk fun x px=>A2k fun ht hn q1 q2 hkz=>?_
 ·have ht:=beqE ht
  cases A88 q1
  cases beqE q2
  obtain⟨a,hg⟩:=A2l hne
  have hv:ex G.pol Φ (.aug i .add e) [r] σ=(ev G.pol Φ [r] false e σ).bind (augB i .add a [r]):=congrArg (augK _ _ _ _) hg
  rw[hv]at hne⊢
  refine wpAny_AugAssign_Name (Fp C.R ht hn hg fun u ru=>?_)
  obtain⟨t,rfl⟩:∃t,u=.int a t:=by cases ru with|v ru=>cases ru;exact⟨_,rfl⟩
  refine evS (X:=fun v Q E s=>wpAny (md W) A (inplaceOp (bop .add) (.int a t) v) (fun r s₃=>wpAny (md W) A (storeName env x r) (fun J=>Q .next) E s₃) E s) (fun J J J J J J x a b=>wpAny_mono x (fun J J y=>wpAny_mono y (fun J J z=>a _ _ z) b) b) C hne (fun h=>h1 cx x' false [r] σ A fr env P η s hkz hI.A C h) ?_
  intro b v σ1 hp tk1 P1 η1 _ hf _ _ C1 rel
  have hb:∃c tc,b=.v (.int c)∧v=.int c tc:=by
   cases rel with
   |h=>exact absurd rfl hf
   |v rb=>cases rb<;>first|exact⟨_,_,rfl,rfl⟩|exact absurd rfl hf
  obtain⟨c,tc,rfl,rfl⟩:=hb
  exact PyProof.Rows.iadd_int (s:={s with heap:=hp,toks:=tk1}) (wpAny_mono (Of (s:={s with heap:=hp,toks:=tk1+1}) hI hl C1 ht (.v (.int (a+c) tk1))) (fun J J q=>SQ.toks (s:={s with heap:=hp,toks:=tk1}) q) fun J J q=>q)
end
end Mine.Internal
namespace Mine.Internal
open PySem PySem.W PyProof.Rows PySem.SeqAt PySem.MeetsSeq PySem.Calls
variable {W:Wd} {P P' P0 P1 P2:GM} {fr:List Env} {h h' h0 h1 h2:Heap} {η η':List Addr} {σ σ':Sto} {env:Env}
section
variable {G:Gl} {n:Nat} {Φ:Phi}
theorem A5f{cx:Cx}{len:Nat}{r:List (Option Val)}{s s':Shared}{x:Val}{v:Value}{res:ResS}(hl:r.length=len)(C:Cur W fr cx env [r] P η σ s.heap)(o:Ok W fr P η s σ' x v s')(e:res=.ok (.next,[r],σ')):SQ W fr cx env len P η s res .next s':=by
 obtain⟨h',tk,rfl,P',η',st,p,I,S,_⟩:=o
 exact⟨.next,r,σ',e,hl,h',tk,P',η',rfl,st.rest,p,C.step st p I S,trivial⟩
theorem A34(hG:GlOK W G){o:CE}{a:Cs}{m:Bool}{e:CE}(h1:EvOk W G n Φ e)(h2:EvOk W G n Φ o):StOk W G n Φ (.setA o a m e):=by
 intro cx len st r σ A fr env P η s hk hI hl C hne
 refine Lu hk fun t x p hk=>Iz hk fun o' nm p'=>A2k fun q1 ha hc hk2 hk1=>Js q1 ?_
 ·refine(let GG:=_;(?_:GG))
  obtain⟨_,_,a3,a4⟩:=hG.attr a (by simpa using ha)
  refine plainObj_wpAny_Assign_Attribute ?_ (Ei hc)
  refine evS (X:=fun v Q E s=>wpAny (md W) A (eval o' env) (fun ov s2=>wpAny (md W) A (setAttr ov (sv a) v) (fun J=>Q .next) E s2) E s) (fun J J J J J J x a b=>wpAny_mono x (fun J J y=>wpAny_mono y (fun J J z=>a _ _ z) b) b) C hne (fun h=>h1 cx x m [r] σ A fr env P η s hk1 hI.A C h) ?_
  intro b v σ1 hp tk1 P1 η1 _ hf _ _ C1 rel
  refine evS (X:=fun ov Q E s=>wpAny (md W) A (setAttr ov (sv a) v) (fun J=>Q .next) E s) (fun J J J J J J x a b=>wpAny_mono x (fun J J z=>a _ _ z) b) C1 hf (fun h=>h2 cx o' false [r] σ1 A fr env P1 η1 _ hk2 hI.A C1 h) ?_
  intro b2 ov σ2 hp2 tk2 P2 η2 _ hf2 st2 p2 C2 rel2
  dsimp only at hf2⊢
  cases ho:E4 b2 a b σ2 with
  |none=>rw[ho]at hf2;exact absurd rfl hf2
  |some σ3=>exact wpAny_mono (Qx (s:={s with heap:=hp2,toks:=tk2}) hG.ok C2.I C2.S rel2 (RV.mono st2.le p2 rel) ho rfl a3 a4) (fun J J o=>A5f hl C2 o rfl) fun J J x=>x
theorem A33(hG:GlOK W G){o i e:CE}(h1:EvOk W G n Φ e)(h2:EvOk W G n Φ o)(h3:EvOk W G n Φ i):StOk W G n Φ (.setI o i e):=by
 intro cx len st r σ A fr env P η s hk hI hl C hne
 refine Lu hk fun t x p hk=>Hr hk fun o' i' p'=>A2k fun hc hs hk2 hk3 hk1=>?_
 ·refine wpAny_Assign_Subscript ?_ (Ei hc)
  refine evS (X:=fun v Q E s=>wpAny (md W) A (eval o' env) (fun ov s2=>wpAny (md W) A (eval i' env) (fun iv s3=>wpAny (md W) A (setItem ov iv v) (fun J=>Q .next) E s3) E s2) E s) (fun J J J J J J x a b=>wpAny_mono x (fun J J y=>wpAny_mono y (fun J J z=>wpAny_mono z (fun J J z=>a _ _ z) b) b) b) C hne (fun h=>h1 cx x false [r] σ A fr env P η s hk1 hI.A C h) ?_
  intro b v σ1 hp tk1 P1 η1 _ hf _ _ C1 rel
  refine evS (X:=fun ov Q E s=>wpAny (md W) A (eval i' env) (fun iv s3=>wpAny (md W) A (setItem ov iv v) (fun J=>Q .next) E s3) E s) (fun J J J J J J x a b=>wpAny_mono x (fun J J z=>wpAny_mono z (fun J J z=>a _ _ z) b) b) C1 hf (fun h=>h2 cx o' false [r] σ1 A fr env P1 η1 _ hk2 hI.A C1 h) ?_
  intro b2 ov σ2 hp2 tk2 P2 η2 _ hf2 st2 p2 C2 rel2
  refine evS (X:=fun iv Q E s=>wpAny (md W) A (setItem ov iv v) (fun J=>Q .next) E s) (fun J J J J J J x a b=>wpAny_mono x (fun J J z=>a _ _ z) b) C2 hf2 (fun h=>h3 cx i' false [r] σ2 A fr env P2 η2 _ hk3 hI.A C2 h) ?_
  intro b3 iv σ3 hp3 tk3 P3 η3 _ hf3 st3 p3 C3 rel3
  dsimp only at hf3⊢
  cases ho:E3 b2 b3 b σ3 with
  |none=>rw[ho]at hf3;exact absurd rfl hf3
  |some σ4=>exact wpAny_mono (Qw (s:={s with heap:=hp3,toks:=tk3}) hG.ok C3.I C3.S (RV.mono st3.le p3 rel2) rel3 (RV.mono st3.le p3 (RV.mono st2.le p2 rel)) ho) (fun J J o=>A5f hl C3 o rfl) fun J J x=>x
theorem Wu{elt:Expr}{gens:List Comprehension}{sc:Scope}{p:Pos}{x:Str}{px:Pos}{l:Nat}:∃b,swapsWith (.ListComp elt gens sc p) (some (.Name x px)) l env=pure b:=⟨_,rfl⟩
set_option tactic.hygienic true in
theorem A77(hG:GlOK W G)(hE:∀ce,EvOk W G n Φ ce)(hT:∀ces,Ik W G n Φ ces){i:Nat}{m:Bool}{e:CE}:StOk W G n Φ (.asg i m e):=by
 intro cx len st r σ A fr env P η s hk hI hl C hne
 have hS:=hG.ok.sys
 refine Lu hk fun t x p=>Ez fun ht hk1 hx=>?_
 ·obtain⟨nm,np,rfl,ht'⟩:=Hz ht
  have plain:swapsWith x (some (.Name nm np)) p.line env=pure false→wpAny (md W) A (exec (.Assign [.Name nm np] x p) env) (SQ W fr cx env len P η s (ex G.pol Φ (.asg i m e) [r] σ))
   (SE W fr env P s (ex G.pol Φ (.asg i m e) [r] σ)) s:=fun hs=>by
   refine wpAny_Assign_Name ?_ hs
   refine evS (X:=fun v Q E s=>wpAny (md W) A (storeName env nm v) (fun J=>Q .next) E s) (fun J J J J J J x a b=>wpAny_mono x (fun J J z=>a _ _ z) b) C hne (fun h=>hE e cx x m [r] σ A fr env P η s hk1 hI.A C h) ?_
   intro b v σ1 hp tk1 P1 η1 _ hf _ _ C1 rel
   exact Of (s:={s with heap:=hp,toks:=tk1}) hI hl C1 ht' rel
  by_cases hc:Ep x=true
  ·exact plain (Ei hc)
  ·revert plain hk1
   refine A9t hx hc fun elt0 gens0 sc0 p0 hk1 plain=>?_
   obtain⟨bs,hsw⟩:=Wu (env:=env) (elt:=elt0) (gens:=gens0) (sc:=sc0) (p:=p0) (x:=nm) (px:=np) (l:=p.line)
   induction bs using Bool.casesOn with
   |false=>exact plain hsw
   |true=>
   have hk2:=hk1
   revert plain hk1 hne
   refine A54 hk2 (fun h=>absurd rfl h) fun elt it ifs nv hne hk1 plain=>?_
   revert hsw
   refine A5p hk1 fun x px it' ifs'=>Wi fun hq hk0 hks hki hk2 hk3=>?_
   ·cases beqE hq
    intro hsw
    have hs:=Kv hks
    rw[exec_Assign_Name_used _ _ _ _ hsw]
    refine wpAny_bind (wpAny_standAt (wpAny_bind ?_))
    show wpAny _ A (do let _←comprehension (.ListComp elt0 [⟨.Name x px,it',ifs',0⟩] sc0 p0) sc0 env _ (newList []) false (eval it' env) (some (assign (.Name nm np) env))) _ _ s
    refine wpAny_bind (wpAny_mono (wpAny_comprehension_free (use:=some (assign (.Name nm np) env)) (Q:=fun J s'=>SQ W fr cx env len P η s (ex G.pol Φ (.asg i m (.comp elt it ifs 0)) [r] σ) .next s')
     (g:=⟨.Name x px,it',ifs',0⟩) (gs:=[]) (cl:=Bp env sc0.names []) rfl (fun v=>?_) (Md fun y hy=>?_) hs.kind (fun y hy hl=>by have:=hs.look y.1 y.2 hy;rw[hl]at this;exact this) ?_) (fun J s' hq=>wpAny_pure (wpAny_pure hq)) fun J J e=>e)
    ·exact Gc hk0 v
    ·obtain⟨d,i,e1,hk⟩:=hs.free y hy
     obtain⟨c,_,hc,_⟩:=C.R.free_cell e1 hk
     exact⟨c,hc⟩
    ·have eA:ex G.pol Φ (.asg i m (.comp elt it ifs 0)) [r] σ=_:=Res.assoc ..
     rw[eA]at hne⊢
     refine evS (X:=fun v Q E s=>wpAny (md W) A (pyIter v) (fun it s2=>wpAny (md W) A (newList []) (fun acc s3=>wpAny (md W) A (newFunctionEnv sc0 env.globals (Bp env sc0.names []) [] env.qual none .none (some env)) (fun cenv s4=>
      codeAny (md W) A (.compStart (.ListComp elt0 [⟨.Name x px,it',ifs',0⟩] sc0 p0) 0 it acc {cenv with scope:=relabel sc0 env}) (compPost (md W) A E (some (assign (.Name nm np) env)) (fun J=>Q .next) acc cenv.locals) s4) E s3) E s2) E s)
      (fun J J J J J J x a b=>wpAny_mono x (fun J J x=>wpAny_mono x (fun J J x=>wpAny_mono x (fun J J x=>codeAny_mono x fun rr J x=>?_) b) b) b) C hne (fun h=>hE it cx it' false [r] σ A fr env P η s hki hI.A C h) ?_
     ·induction rr using Except.casesOn with
      |ok f=>exact wpAny_mono x (fun J J ⟨mm,z1,z2⟩=>⟨mm,z1,fun h' hs=>a _ _ (z2 h' hs)⟩) b
      |error e=>obtain⟨mm,hn,k⟩:=x;exact⟨mm,hn,fun h' hs cenv hc=>wpAny_mono (k h' hs cenv hc) (fun J J z=>z) b⟩
     intro b v σ1 hp tk1 P1 η1 _ hf _ _ C1 rel
     have hf1:=fun z=>hf (Res.bind_st z)
     obtain⟨pv,σ2,xs,ef,ei,e3⟩:=Ds hf1
     rw[e3]at hf hf1⊢
     obtain⟨P2,st2,I2,S2,rv2⟩:=Dk hS C1.I C1.S rel ef
     obtain⟨qs,σq,hsm,hr,e4⟩:=O8 hf1
     rw[e4]
     have C2:Cur W fr cx env [r] P2 η1 σ2 ({s with heap:=hp,toks:=tk1}:Shared).heap:=C1.step st2 (.refl _) I2 S2
     refine O7 hG (hE elt) (hT ifs) (m:=m) hs hk2 hk3 hI.A C2 rv2 ei (by simpa[small]using hsm) hr ?_
     intro D Ca m' h' tk P' η' hC0 hPC hCD hns st pr I' S' rel'
     have C3:Cur W fr cx env [r] P' η' (mk m qs σq).2 h':=C2.step st pr I' S'
     show wpAny (md W) A (assign (.Name nm np) env (.ref D)) _ _ _
     refine wpAny_assign_Name (Hf (s:={s with heap:=h',toks:=tk}) hI.F hl C3 ht' rel' fun h4 tk4 b4 hb4 hs4 st4 C4=>?_)
     have hCL:env.locals≠Ca:=by rintro rfl;obtain⟨_,o,_,_,ho,_⟩:=C2.R.ns;rw[hC0]at ho;cases ho
     have hCc:∀y c,env.cells.lookup y=some c→c≠Ca:=fun y c hc=>by
      obtain⟨d,j,e1,hk⟩:=hI.cells y c hc
      obtain⟨c',u,hc',⟨oc,ho,_⟩,_⟩:=C2.R.free_cell e1 hk
      rw[hc]at hc';cases hc'
      rintro rfl;rw[hC0]at ho;cases ho
     have hCb:Ca≠b4:=by
      rcases hb4 with rfl|hb4
      ·exact hCL.symm
      ·exact(hCc _ _ hb4).symm
     refine⟨m',hns.sameBut hs4 hCb,fun h5 hs5=>?_⟩
     have nC:=Cb I2 hC0
     have I5:=Bj C4.I hPC (Bc I2 hC0) (fun env he hf=>absurd hf (nC env he)) hs5.extBut
     have stA:Stp fr P1 (rest env hp) P' h4:=Stp.transR (st2.trans st).rest st4
     have st5:Stp fr P1 (rest env hp) P' h5:=Bi stA (Dc hC0) hs5.extBut
     have R5:=G5 C4.R hs5.extBut hCL hCc
     exact⟨.next,r.set i (some (mk m qs σq).1),(mk m qs σq).2,rfl,by rw[List.length_set];exact hl,h5,tk4,P',η',rfl,st5,pr,⟨I5,S',R5⟩,trivial⟩
end
end Mine.Internal
namespace Mine.Internal
open PySem PySem.W PyProof.Rows PySem.SeqAt PySem.MeetsSeq PySem.Calls
variable {W:Wd} {P P' P0 P1 P2:GM} {fr:List Env} {h h' h0 h1 h2:Heap} {η η':List Addr} {σ σ':Sto} {env:Env}
section
variable {G:Gl} {n:Nat} {Φ:Phi}
theorem Xz{A:Around}{E:Value→Shared→Prop}{I:Addr}{fp:List Addr}{xs:List PV}{Pw:Nat→Value→Prop}{St:Nat→Heap→Prop}(Wk:Walks W.prog W.w A I fp [I] xs.length Pw St)
 (hitem:∀i v,i<xs.length→Pw i v→∃x,xs[i]?=some x∧Rv W P x v) (k:Nat):∀(i:Nat) (s:Shared) (Q:List Value→Shared→Prop),St i s.heap→i+k=xs.length→
 (∀h' tk us,St xs.length h'→Heap.ExtBut I s.heap h'→Rvs W P (xs.drop i) us→Q us {s with heap:=h',toks:=tk})→wpAny (md W) A (draw (.ref I) k) Q E s:=by
 induction k with
 |zero=>
  intro i s Q st hi hQ
  show wpAny _ _ (pure []) Q E s
  have:i=xs.length:=hi
  subst this
  exact wpAny_pure (hQ s.heap s.toks [] st (fun J J J e=>e) (by rw[List.drop_length];exact .nil))
 |succ k ih=>
  intro i s Q st hi hQ
  show wpAny _ _ (pyNext (.ref I)>>=_) Q E s
  have hl:i<xs.length:=Nat.lt_of_lt_of_eq (Nat.lt_add_of_pos_right (Nat.succ_pos k)) hi
  refine wpAny_bind (Wk.item i s _ _ hl st fun v h1 tk1 hv st1 hk1=>?_)
  refine wpAny_bind (wpAny_holding (ih (i+1) _ _ st1 ((Nat.succ_add_eq_add_succ i k).trans hi) fun h2 tk2 us st2 hk2 r2=>wpAny_pure ?_))
  obtain⟨x,hx,rx⟩:=hitem i v hl hv
  have hd:xs.drop i=x::xs.drop (i+1):=by
   rw[List.drop_eq_getElem_cons hl]
   rw[List.getElem?_eq_getElem hl]at hx;cases hx;rfl
  refine hQ h2 tk2 (v::us) st2 (fun b o hb e=>hk2 b o hb (hk1 b o (by simpa using hb) e)) ?_
  rw[hd];exact .cons rx r2
theorem Wr{A:Around}{E:Value→Shared→Prop}(hA:AOK A fr n){s:Shared}(I:Inv W P fr s.heap){pv:PV}{v:Value}{xs:List PV}(rel:Rv W P pv v)(hp:pv=.lst xs∨pv=.tup xs){Q:List Value→Shared→Prop}
 (hQ:∀h' tk us,(∀b o,s.heap.get? b=some o→h'.get? b=some o)→Rvs W P xs us→us.length=xs.length→Q us {s with heap:=h',toks:=tk}):wpAny (md W) A (unpackItems v xs.length none) Q E s:=by
 have hit:Az pv=some xs:=by rcases hp with rfl|rfl<;>rfl
 unfold unpackItems
 have hna:∀{T:String} {r:String},s.TypeIs v T→typeLookup (.type T) (Str.ofString "__iter__")=pure (some (.builtin r))→wpAny (md W) A (notIterableAtAll v) (fun b s'=>b=false∧s'=s) E s:=fun hT hl=>by
  unfold notIterableAtAll
  refine wpAny_bind (wpAny_specialOf hT hl ?_)
  exact wpAny_pure ⟨rfl,rfl⟩
 have hn:wpAny (md W) A (notIterableAtAll v) (fun b s'=>b=false∧s'=s) E s:=by
  refine(let GG:=_;(?_:GG))
  rcases hp with rfl|rfl
  ·cases rel with|lst hr _=>exact hna ⟨_,I.gh _ _ hr,rfl⟩ PySem.F.slot_list_iter.lookup
  ·cases rel with|tup hr ht _=>exact hna ⟨_,I.gh _ _ hr,ht.cls⟩ PySem.F.slot_tuple_iter.lookup
 refine wpAny_bind (wpAny_mono hn (fun b s' ⟨e1,e2⟩=>?_) fun J J x=>x)
 subst e1 e2
 simp only[Bool.false_eq_true,if_false]
 refine wpAny_bind (wpAny_holding (Pi hA I rel hit ?_))
 rintro it s2 ⟨o,rfl⟩ ⟨Ia,fp,Pw,St,rfl,Wk,st0,hfp,hI0,hIfp,hlive,kp2,hitem⟩
 refine wpAny_bind (wpAny_holding (Xz Wk hitem xs.length 0 _ _ st0 (Nat.zero_add _) fun h1 tk1 us st1 hk1 r1=>?_))
 rw[List.drop_zero]at r1
 have hl:us.length=xs.length:=r1.length.symm
 rw[if_neg (by omega)]
 refine wpAny_bind (wpAny_holding (Wk.done _ _ _ st1 fun h2 tk2 hk2=>?_))
 simp only[Option.isSome_none,Bool.false_eq_true,if_false]
 refine wpAny_pure (hQ h2 tk2 us (fun b o e=>?_) r1 hl)
 have hb:b≠Ia:=by rintro rfl;rw[hI0]at e;cases e
 exact hk2 b o (by simpa using hb) (hk1 b o hb (kp2 b o e))
theorem Ii(env:Env){cx:Cx}:∀{is:List Nat} {ts:List Expr},Gg cx is ts=true→assignEach ts env=ts.map (fun t=>(false,assign t env))∧ts.length=is.length
 |[],[],_=>⟨rfl,rfl⟩
 |[],_::_,h=>nf h
 |_::_,[],h=>nf h
 |i::is,t::ts,h=>by
  have h:=band h
  obtain⟨x,p,rfl,_⟩:=Hz h.1
  obtain⟨a,b⟩:=Ii env h.2
  exact⟨by show(false,assign (.Name x p) env)::assignEach ts env=_;rw[a];rfl,by simp[b]⟩
theorem Jz{cx:Cx}{len:Nat}{A:Around}{E:Value→Shared→Prop}{M:Model}(hI:InFn W A fr env cx len n):∀{is:List Nat} {ts:List Expr} {ys:List PV} {us:List Value} {r:List (Option Val)} {ρ':PEnv} {s:Shared},Gg cx is ts=true→r.length=len→
 Cur W fr cx env [r] P η σ s.heap→Rvs W P ys us→Bx is ys [r]=some ρ'→wpAny M A (assignInOrder (ts.map fun t=>assign t env) us) (fun J=>SQ W fr cx env len P η s (.ok (.next,ρ',σ)) .next) E s
 |[],[],ys,us,r,ρ',s,_,hl,C,rv,e=>by
  induction ys using List.casesOn with
  |cons=>exact nfo e
  |nil=>cases rv;cases e;exact wpAny_pure (SQ.here0 (fl:=.next) hl C rfl trivial)
 |[],_::_,_,_,_,_,_,h,_,_,_,_=>nf h
 |_::_,[],_,_,_,_,_,h,_,_,_,_=>nf h
 |i::is,t::ts,ys,us,r,ρ',s,h,hl,C,rv,e=>by
  have h:=band h
  obtain⟨x,p,rfl,ht⟩:=Hz h.1
  induction ys using List.casesOn with
  |nil=>exact nfo e
  |cons y ys=>
   cases rv with|cons rv1 rv2=>
   rw[A3d]at e
   refine assignInOrder_cons (wpAny_assign_Name (Hf hI.F hl C ht (.v rv1) fun h' tk b hb hsb st C'=>?_))
   exact wpAny_mono (Jz (s:={s with heap:=h',toks:=tk}) hI h.2 (by rw[List.length_set];exact hl) C' rv2 e) (fun J J q=>SQ.trans st (.refl _) q) fun J J x=>x
theorem Im{cx:Cx}{len:Nat}{A:Around}{E:Value→Shared→Prop}(hG:GlOK W G)(hI:InFn W A fr env cx len n){is:List Nat}{ts:List Expr}{k}{tp:Pos}{pv:PV}{ys:List PV}{v:Value}{r:List (Option Val)}{ρ':PEnv}{s:Shared}(ht:Gg cx is ts=true)(hl:r.length=len)
 (C:Cur W fr cx env [r] P η σ s.heap) (rel:Rv W P pv v) (hp:pv=.lst ys∨pv=.tup ys) (e:Bx is ys [r]=some ρ'):
 wpAny (md W) A (assign (.Tuple ts k tp) env v) (fun J=>SQ W fr cx env len P η s (.ok (.next,ρ',σ)) .next) E s:=by
 obtain⟨h1,h2⟩:=Ii env ht
 have hlen:∀{is:List Nat} {ys:List PV} {ρ ρ':PEnv},Bx is ys ρ=some ρ'→is.length=ys.length:=by
  intro is
  induction is with
  |nil=>intro ys ρ ρ' h;induction ys using List.casesOn with
   |nil=>rfl
   |cons=>exact nfo h
  |cons i is ih=>intro ys ρ ρ' h;induction ys using List.casesOn with
   |nil=>exact nfo h
   |cons y ys=>exact congrArg (·+1) (ih h)
 rw[assign_Tuple]
 refine wpAny_bind (wpAny_standAt ?_)
 unfold unpack
 have e1:(assignEach ts env).length=ys.length:=by rw[h1,List.length_map,h2,hlen e]
 have e2:(assignEach ts env).findIdx? (·.1)=none:=by rw[h1,List.findIdx?_eq_none_iff];intro x hx;obtain⟨t,_,rfl⟩:=List.mem_map.mp hx;rfl
 rw[e1,e2]
 refine wpAny_bind (wpAny_holding (Wr hI.A C.I rel hp fun h' tk us kp r1 J=>?_))
 have e3:(assignEach ts env).map (·.2)=ts.map fun t=>assign t env:=by rw[h1,List.map_map];rfl
 rw[e3]
 have stk:Stp fr P s.heap P h':=Ba kp
 have C':Cur W fr cx env [r] P η σ h':=C.step stk (.refl _) (Bg hG.ok.sys C.I kp) C.S
 exact wpAny_mono (Jz (s:={s with heap:=h',toks:=tk}) hI ht hl C' r1 e) (fun J J q=>SQ.trans stk.rest (.refl _) q) fun J J x=>x
theorem A73(hG:GlOK W G){is:List Nat}{e:CE}(h1:EvOk W G n Φ e):StOk W G n Φ (.unp is e):=by
 intro cx len st r σ A fr env P η s hk hI hl C hne
 refine Lu hk fun t x p hk=>Kj hk fun ts k tp=>Ez fun ht hc hk1=>?_
 ·have hs1:swapsWithSole [.Tuple ts k tp] x p.line env=pure false:=Rm hc fun J J J J=>rfl
  have hs2:swappedStores [.Tuple ts k tp] x env=pure none:=Rm hc fun J J J J=>rfl
  refine Assign_Tuple ?_ hs1 hs2
  refine evS (X:=fun v Q E s=>wpAny (md W) A (assign (.Tuple ts k tp) env v) (fun J=>Q .next) E s) (fun J J J J J J x a b=>wpAny_mono x (fun J J z=>a _ _ z) b) C hne (fun h=>h1 cx x false [r] σ A fr env P η s hk1 hI.A C h) ?_
  intro b v σ1 hp tk1 P1 η1 _ hf _ _ C1 rel
  have fin:∀ys,(b=.v (.lst ys)∨b=.v (.tup ys))→Ac ((Bx is ys [r]).map fun ρ'=>(Fl.next,ρ',σ1))≠.stk→wpAny (md W) A (assign (.Tuple ts k tp) env v)
   (fun J=>SQ W fr cx env len P1 η1 {s with heap:=hp,toks:=tk1} (Ac ((Bx is ys [r]).map fun ρ'=>(Fl.next,ρ',σ1))) .next) (SE W fr env P1 {s with heap:=hp,toks:=tk1} (Ac ((Bx is ys [r]).map fun ρ'=>(Fl.next,ρ',σ1)))) {s with heap:=hp,toks:=tk1}:=fun ys hb hn=>by
   cases ho:Bx is ys [r]with
   |none=>rw[ho]at hn;exact absurd rfl hn
   |some ρ'=>
    refine(let GG:=_;(?_:GG))
    rcases hb with rfl|rfl
    ·cases rel with|v rv=>exact Im (s:={s with heap:=hp,toks:=tk1}) hG hI ht hl C1 rv (.inl rfl) ho
    ·cases rel with|v rv=>exact Im (s:={s with heap:=hp,toks:=tk1}) hG hI ht hl C1 rv (.inr rfl) ho
  induction b using Val.casesOn with
  |h=>exact absurd rfl hf
  |v x=>
   induction x using PV.casesOn with
   |lst ys=>exact fin ys (.inl rfl) hf
   |tup ys=>exact fin ys (.inr rfl) hf
   |_=>exact absurd rfl hf
end
end Mine.Internal
namespace Mine.Internal
open PySem PySem.W PyProof.Rows PySem.SeqAt PySem.MeetsSeq PySem.Calls
variable {W:Wd} {P P' P0 P1 P2:GM} {fr:List Env} {h h' h0 h1 h2:Heap} {η η':List Addr} {σ σ':Sto} {env:Env}
section
variable {G:Gl} {n:Nat} {Φ:Phi}
set_option backward.match.sparseCases true in
theorem A81{target:Expr}{I:Addr}{v:Value}{A:Around}{s:Shared}{Q:Unit→Shared→Prop}{E:Value→Shared→Prop}(hl:∃oI,s.heap.get? I=some oI∧∃nm,oI.cls=.type nm∧Ix nm=false)(h:Q () s):
 wpAny (md W) A (letOwnedTupleGo target (.ref I) v) Q E s:=by
 obtain⟨oI,ho,nm,hc,hn⟩:=hl
 have main:wpAny (md W) A (do
  let(.ref r,.ref a):=((Value.ref I:Value),v)|return
  let o←load r
  match o.cls,o.data with
  |.type n,.fields vs=>
   if["enumerate","zip","dict_itemiterator","dict_reverseitemiterator","odict_iterator","itertools.zip_longest","itertools.pairwise"].contains n&&vs[0]?==some (rawInt a)then
    rule "for.unpacks-the-owned-tuple"
    updateField r 0 .none
  |_,_=>pure ()) Q E s:=by
  induction v using Value.casesOn with
  |ref a=>
   refine wpAny_bind (wpAny_load ho ?_)
   rw[hc]
   cases oI.data with
   |fields vs=>
    dsimp only
    rw[if_neg]
    ·exact wpAny_pure h
    ·unfold Ix at hn
     rw[hn];simp
   |_=>exact wpAny_pure h
  |_=>exact wpAny_pure h
 induction target using PySem.Expr.casesOn<;>first|exact main|exact wpAny_pure h
inductive FInv(W:Wd)(fr:List Env)(cx:Cx)(env:Env)(len:Nat)(P:GM)(η:List Addr)(s:Shared)(I:Addr)(St:Nat→Heap→Prop)(b:PV→PEnv→Sto→ResS)(xs:List PV)(res:ResS)(k:Nat)(s':Shared):Prop
 |mk (h':Heap) (tk:Nat) (P':GM) (η':List Addr) (σ':Sto) (r':List (Option Val)) (j:Nat) (es:s'={s with heap:=h',toks:=tk}) (hk:k=xs.length+1-j) (hj:j≤xs.length) (hl:r'.length=len) (st:Stp fr P (rest env s.heap) P' h') (pr:Pre η η')
  (C:Cur W fr cx env [r'] P' η' σ' h') (stj:St j h') (pI:P' I=none) (hr:forL b (xs.drop j) [r'] σ'=res):FInv W fr cx env len P η s I St b xs res k s'
theorem S9(hG:GlOK W G){A:Around}{cx:Cx}{len:Nat}(hI:InFn W A fr env cx len n){target:Expr}{body:List Stmt}{stepB:PV→PEnv→Sto→ResS}{r:List (Option Val)}{s:Shared}
 (hstep:∀y v (r:List (Option Val)) σ P η (s:Shared),r.length=len→Cur W fr cx env [r] P η σ s.heap→Rv W P y v→stepB y [r] σ≠.stk→
  wpAny (md W) A (assign target env v) (fun J s2=>wpAny (md W) A (execs body env) (SQ W fr cx env len P η s (stepB y [r] σ)) (SE W fr env P s (stepB y [r] σ)) s2) (SE W fr env P s (stepB y [r] σ)) s)
 (hl:r.length=len) (C:Cur W fr cx env [r] P η σ s.heap) {pv:PV} {v:Value} {xs:List PV} (rel:Rv W P pv v) (hit:Az pv=some xs) (hne:forL stepB xs [r] σ≠.stk) {E:Value→Shared→Prop}:
 wpAny (md W) A (pyIter v) (fun it s2=>codeAny (md W) A (.forLoop target it body [] env) (fun rr s'=>match rr with|.ok f=>SQ W fr cx env len P η s (forL stepB xs [r] σ) f s'|.error e=>cameBackBy (md W) A env (SE W fr env P s (forL stepB xs [r] σ)) e s') s2) E s:=by
 generalize hres:forL stepB xs [r] σ=res at hne
 refine Pi hI.A C.I rel hit ?_
 rintro it s2 ⟨o,rfl⟩ ⟨I,fp,Pw,St,rfl,Wk,st0,hfp,hI0,hIfp,hlive,kp2,hitem⟩
 have nI:=Cb C.I hI0
 have bI:=Bc C.I hI0
 have hIo:I∉own env:=fun hm=>by obtain⟨oa,ha⟩:=hI.live C.R hm;cases hI0.symm.trans ha
 have hIL:env.locals≠I:=fun e=>hIo (e▸List.mem_cons_self)
 have hIc:∀y c,env.cells.lookup y=some c→c≠I:=fun y c hc e=>hIo (e▸List.mem_cons_of_mem _ (List.mem_map.mpr ⟨(y,c),mem_of_lookup hc,rfl⟩))
 have frameSt:∀{Pa Pb:GM} {ha hb:Heap} (j:Nat),GLe P Pa→Inv W Pa fr ha→GLe P Pb→Inv W Pb fr hb→(∀o,ha.get? I=some o→hb.get? I=some o)→St j ha→St j hb:=fun j la Ia lb Ib hI st=>Wk.frame j _ _ st fun b hb' o ho=>by
  rcases hfp b hb' with rfl|⟨ob,hob⟩
  ·exact hI o ho
  ·cases(Ia.gh b _ (la.fz b ob hob):_=some ob).symm.trans ho
   exact Ib.gh b _ (lb.fz b _ hob)
 refine codeAny_forLoop_any (FInv W fr cx env len P η s I St stepB xs res) ?_ (xs.length+1)
  ⟨_,s.toks,P,η,σ,r,0,rfl,rfl,Nat.zero_le _,hl,(Ba kp2).rest,.refl _,C.step (Ba kp2) (.refl _) (Bg hG.ok.sys C.I kp2) C.S,st0,Ad C.I hI0,hres⟩
 rintro k s' ⟨h',tk,P',η',σ',r',j,rfl,rfl,hj,hl',st,pr,C',stj,hPI,hr⟩
 have turn:∀h1,Heap.ExtBut I h' h1→Stp fr P (rest env s.heap) P' h1∧Cur W fr cx env [r'] P' η' σ' h1:=fun h1 eb=>⟨Bi st (Dc hI0) eb,Bj C'.I hPI bI (fun env he hf=>absurd hf (nI env he)) eb,C'.S,G5 C'.R eb hIL hIc⟩
 rcases Nat.lt_or_ge j xs.length with hlt|hge
 ·refine Wk.item j _ _ _ hlt stj fun v1 h1 tk1 hPv hst1 hk1=>?_
  obtain⟨y,hy,rv1⟩:=hitem j v1 hlt hPv
  have hdrop:xs.drop j=y::xs.drop (j+1):=by rw[List.drop_eq_getElem_cons hlt];rw[List.getElem?_eq_getElem hlt]at hy;cases hy;rfl
  rw[hdrop,A18]at hr
  obtain⟨st1,C1⟩:=turn h1 fun b o hb e=>hk1 b o (fun q=>hb (List.mem_singleton.mp q)) e
  refine A81 (s:={s with heap:=h1,toks:=tk1}) (hlive _ _ hst1) ?_
  have err:∀e s3,SE W fr env P' {s with heap:=h1,toks:=tk1} (stepB y [r'] σ') e s3→notedBy (md W) A env (fun e s'=>cameBackBy (md W) A env (SE W fr env P s res) e s') e s3:=by
   rintro e s3 ⟨m,e1,h3,tk3,P3,a,rfl,rfl,st3,I3,F3⟩
   obtain⟨outer,rfl⟩:=hI.fr
   obtain⟨L,hL⟩:=hI.L
   have hB:Ct W (rest env h1):=hI.at'.baseIn C1.I
   refine A05 (s:={s with heap:=h3,toks:=tk3}) hI.A.frames hL hB st3 I3 F3 fun h4 st4 I4 F4=>?_
   refine Sk (s:={s with heap:=h4,toks:=tk3}) hB st4 I4 F4 fun h5 st5 I5 F5=>?_
   exact⟨m,hr.symm.trans (Res.bind_ex e1),h5,tk3,P3,a,rfl,rfl,st1.transR st5,I5,F5.fly.back fun b e=>Nh st1 C1.I e⟩
  refine wpAny_mono (hstep y v1 r' σ' P' η' {s with heap:=h1,toks:=tk1} hl' C1 (rv1.mono st.le) fun z=>hne (hr.symm.trans (Res.bind_st z))) (fun J s2 x=>wpAny_mono x (fun f s3 x=>?_) err) err
  obtain⟨fl,r3,σ3,e3,hl3,h3,tk3,P3,η3,rfl,st3,pr3,C3,rel3⟩:=x
  have hr:=(Res.bind_at e3).symm.trans hr
  obtain⟨oI,hoI,_⟩:=hlive _ _ hst1
  have hkI:=stay st3 hPI ((Cn hIo).trans hoI) nI
  have stA:=st1.transR st3
  induction fl using Fl.casesOn with
  |next=>cases f<;>first|exact⟨_,Wc hlt,h3,tk3,P3,η3,σ3,r3,j+1,rfl,rfl,hlt,hl3,stA,pr.trans pr3,C3,frameSt (j+1) st.le C1.I stA.le C3.I (fun o e=>(hoI.symm.trans e)▸hkI.1) hst1,hkI.2,hr⟩|exact rel3.elim
  |ret x=>cases f<;>first|exact rel3.elim|exact⟨.ret x,r3,σ3,hr.symm,hl3,h3,tk3,P3,η3,rfl,stA,pr.trans pr3,C3,rel3⟩
 ·cases Nat.le_antisymm hj hge
  refine Wk.done _ _ _ stj fun h1 tk1 hk1=>?_
  rw[List.drop_length]at hr
  obtain⟨st1,C1⟩:=turn h1 fun b o hb e=>hk1 b o (fun q=>hb (List.mem_singleton.mp q)) e
  exact wpAny_execs_nil ⟨.next,r',σ',hr.symm,hl',h1,tk1,P',η',rfl,st1,pr,C1,trivial⟩
theorem I9{A:Around}{target:Expr}{body:List Stmt}{v:Value}{Q Q':Flow→Shared→Prop}{F F':Value→Shared→Prop}{s:Shared}
 (x:wpAny (md W) A (pyIter v) (fun it s2=>codeAny (md W) A (.forLoop target it body [] env) (fun rr s'=>match rr with|.ok f=>Q f s'|.error e=>cameBackBy (md W) A env F e s') s2) F s) (a:∀u s',Q u s'→Q' u s') (b:∀e s',F e s'→F' e s'):
 wpAny (md W) A (pyIter v) (fun it s2=>codeAny (md W) A (.forLoop target it body [] env) (fun rr s'=>match rr with|.ok f=>Q' f s'|.error e=>cameBackBy (md W) A env F' e s') s2) F' s:=
 wpAny_mono x (fun J J x=>codeAny_mono x fun rr J x=>by
  induction rr using Except.casesOn with
  |ok f=>exact a _ _ x
  |error e=>exact wpAny_mono x (fun J J z=>b _ _ z) b) b
theorem A38(hG:GlOK W G){i:Nat}{it:CE}{b:CSs}(h1:EvOk W G n Φ it)(h2:Fy W G n Φ b):StOk W G n Φ (.forS i it b):=by
 intro cx len st r σ A fr env P η s hk hI hl C hne
 have hS:=hG.ok.sys
 refine Zy hk fun t x body p=>Od fun ht hk0 hk1 hk2=>?_
 ·obtain⟨nm,np,rfl,ht'⟩:=Hz ht
  refine wpAny_For ?_ (Gc hk0)
  refine evS (X:=fun v Q E s=>wpAny (md W) A (pyIter v) (fun it s2=>codeAny (md W) A (.forLoop (.Name nm np) it body [] env) (fun rr s'=>match rr with|.ok f=>Q f s'|.error e=>cameBackBy (md W) A env E e s') s2) E s)
   (fun J J J J J J x a b=>I9 x a b) C hne (fun h=>h1 cx x false [r] σ A fr env P η s hk1 hI.A C h) ?_
  intro b' v σ1 hp tk1 P1 η1 _ hf _ _ C1 rel
  obtain⟨pv,σ2,xs,ef,ei,e3⟩:=Ds hf
  rw[e3]at hf⊢
  obtain⟨P2,st2,I2,S2,rv2⟩:=Dk hS C1.I C1.S rel ef
  have C2:Cur W fr cx env [r] P2 η1 σ2 ({s with heap:=hp,toks:=tk1}:Shared).heap:=C1.step st2 (.refl _) I2 S2
  refine I9 (S9 (s:={s with heap:=hp,toks:=tk1}) hG hI (target:=.Name nm np) (body:=body) (stepB:=fun y ρ σ=>exs G.pol Φ b (setV ρ i (.v y)) σ) ?_ hl C2 rv2 ei hf) (fun J J q=>SQ.trans st2.rest (.refl _) q) (fun J J q=>SE.trans st2.rest I2 q)
  intro y v1 r1 σ3 P3 η3 s3 hl3 C3 rv3 hn3
  refine wpAny_assign_Name (Hf hI.F hl3 C3 ht' (.v rv3) fun h4 tk4 b4 hb4 hs4 st4 C4=>?_)
  exact wpAny_mono (h2 cx len body (r1.set i (some (.v y))) σ3 A fr env P3 η3 {s3 with heap:=h4,toks:=tk4} hk2 hI (by rw[List.length_set];exact hl3) C4 hn3) (fun J J q=>SQ.trans st4 (.refl _) q) (fun J J q=>SE.trans st4 C4.I q)
set_option tactic.hygienic true in
theorem A37(hG:GlOK W G){is:List Nat}{it:CE}{b:CSs}(h1:EvOk W G n Φ it)(h2:Fy W G n Φ b):StOk W G n Φ (.forT is it b):=by
 intro cx len st r σ A fr env P η s hk hI hl C hne
 have hS:=hG.ok.sys
 refine Zy hk fun t x body p hk=>Kj hk fun ts tk tp=>Od fun ht hk0 hk1 hk2=>?_
 ·refine wpAny_For ?_ (Gc hk0)
  refine evS (X:=fun v Q E s=>wpAny (md W) A (pyIter v) (fun it s2=>codeAny (md W) A (.forLoop (.Tuple ts tk tp) it body [] env) (fun rr s'=>match rr with|.ok f=>Q f s'|.error e=>cameBackBy (md W) A env E e s') s2) E s)
   (fun J J J J J J x a b=>I9 x a b) C hne (fun h=>h1 cx x false [r] σ A fr env P η s hk1 hI.A C h) ?_
  intro b' v σ1 hp tk1 P1 η1 _ hf _ _ C1 rel
  obtain⟨pv,σ2,xs,ef,ei,e3⟩:=Ds hf
  rw[e3]at hf⊢
  obtain⟨P2,st2,I2,S2,rv2⟩:=Dk hS C1.I C1.S rel ef
  have C2:Cur W fr cx env [r] P2 η1 σ2 ({s with heap:=hp,toks:=tk1}:Shared).heap:=C1.step st2 (.refl _) I2 S2
  refine I9 (S9 (s:={s with heap:=hp,toks:=tk1}) hG hI (target:=.Tuple ts tk tp) (body:=body) ?_ hl C2 rv2 ei hf) (fun J J q=>SQ.trans st2.rest (.refl _) q) (fun J J q=>SE.trans st2.rest I2 q)
  intro y v1 r1 σ3 P3 η3 s3 hl3 C3 rv3 hn3
  obtain⟨ys,ρ',rfl,es,e5⟩:=Yr hn3
  rw[e5]at hn3⊢
  refine wpAny_mono (Im (E:=SE W fr env P3 s3 (exs G.pol Φ b ρ' σ3)) hG hI ht hl3 C3 rv3 (.inr rfl) es) (fun J s4 q=>?_) (fun J J x=>x)
  obtain⟨fl,r4,σ4,e4,hl4,h4,tk4,P4,η4,rfl,st4,pr4,C4,rel4⟩:=q
  cases e4
  exact wpAny_mono (h2 cx len body r4 σ3 A fr env P4 η4 {s3 with heap:=h4,toks:=tk4} hk2 hI hl4 C4 hn3) (fun J J q=>SQ.trans st4 pr4 q) (fun J J q=>SE.trans st4 C4.I q)
end
end Mine.Internal
namespace Mine.Internal
open PySem PySem.W PyProof.Rows PySem.SeqAt PySem.MeetsSeq PySem.Calls
variable {W:Wd} {P P' P0 P1 P2:GM} {fr:List Env} {h h' h0 h1 h2:Heap} {η η':List Addr} {σ σ':Sto} {env:Env}
section
variable {G:Gl} {n:Nat} {Φ:Phi}
inductive WInv(W:Wd)(fr:List Env)(cx:Cx)(env:Env)(len:Nat)(P:GM)(η:List Addr)(s:Shared)(t:PEnv→Sto→Res (Bool×Sto))(b:PEnv→Sto→ResS)(res:Fl×PEnv×Sto)(k:Nat)(s':Shared):Prop
 |mk (h':Heap) (tk:Tok) (P':GM) (η':List Addr) (σ':Sto) (r':List (Option Val)) (e:s'={s with heap:=h',toks:=tk}) (hl:r'.length=len) (st:Stp fr P (rest env s.heap) P' h') (pr:Pre η η') (C:Cur W fr cx env [r'] P' η' σ' h')
  (hr:whlN t b k [r'] σ'=.ok res):WInv W fr cx env len P η s t b res k s'
set_option tactic.hygienic true in
theorem Yk{A:Around}{cx:Cx}{len:Nat}(hI:InFn W A fr env cx len n){c:CE}{b:CSs}(h1:TrOk W G n Φ c)(h2:Fy W G n Φ b){x:Expr}{body:List Stmt}(hk1:ckE G cx c x=true)(hk2:ckSs G cx b body=true){r:List (Option Val)}{s:Shared}
 (hl:r.length=len) (C:Cur W fr cx env [r] P η σ s.heap) {res:Fl×PEnv×Sto} {k0:Nat} (hne:whlN (fun ρ σ=>Ar (ev G.pol Φ ρ false c σ)) (fun ρ σ=>exs G.pol Φ b ρ σ) k0 [r] σ=.ok res) {R:Result→Shared→Prop} (hR:∀f s',SQ W fr cx env len P η s (.ok res) f s'→R (.ok f) s'):
 codeAny (md W) A (.whileLoop x body [] env) R s:=by
 refine codeAny_whileLoop (WInv W fr cx env len P η s (fun ρ σ=>Ar (ev G.pol Φ ρ false c σ)) (fun ρ σ=>exs G.pol Φ b ρ σ) res) ?_ k0 ⟨s.heap,s.toks,P,η,σ,r,rfl,hl,Stp.rest0,.refl _,C,hne⟩
 rintro k s' ⟨h',tk,P',η',σ',r',rfl,hl',st,pr,C',hr⟩
 refine(let GG:=_;(?_:GG))
 induction k using Nat.casesOn with
 |zero=>cases hr
 |succ k=>
  obtain⟨⟨b',σ1⟩,hb,hr⟩:=Res.bind_ok hr
  refine wpAny_mono (h1 cx x [r'] σ' A fr env P' η' {s with heap:=h',toks:=tk} hk1 hI.A C' (Res.ok_ne hb)) (fun v s2 q2=>?_) (fun e s2 q2=>?_)
  ·refine(let GG:=_;(?_:GG))
   obtain⟨b2,σ2,e1,hp,tk1,P1,η1,rfl,st1,pr1,I1,S1,rel⟩:=q2
   cases e1.symm.trans hb
   cases(rel:v=b')
   have C1:=C'.step st1 pr1 I1 S1
   have stA:=st.transR st1.rest
   induction b' using Bool.casesOn with
   |false=>exact wpAny_execs_nil (hR _ _ ⟨.next,r',σ1,hr.symm,hl',hp,tk1,P1,η1,rfl,stA,pr.trans pr1,C1,trivial⟩)
   |true=>
    obtain⟨⟨fl0,ρ0,σ0⟩,hx,hr⟩:=Res.bind_ok hr
    refine wpAny_mono (h2 cx len body r' σ1 A fr env P1 η1 {s with heap:=hp,toks:=tk1} hk2 hI hl' C1 (Res.ok_ne hx)) (fun f s3 q3=>?_) (fun e s3 q3=>?_)
    ·obtain⟨fl,r3,σ3,e3,hl3,h3,tk3,P3,η3,rfl,st3,pr3,C3,rel3⟩:=q3
     refine(let GG:=_;(?_:GG))
     cases e3.symm.trans hx
     have stB:=stA.transR st3
     induction fl0 using Fl.casesOn with
     |next=>cases f<;>first|exact⟨k,Nat.lt_succ_self k,h3,tk3,P3,η3,_,r3,rfl,hl3,stB,(pr.trans pr1).trans pr3,C3,hr⟩|exact rel3.elim
     |ret z=>cases f<;>first|exact rel3.elim|exact hR _ _ ⟨.ret z,r3,_,hr.symm,hl3,h3,tk3,P3,η3,rfl,stB,(pr.trans pr1).trans pr3,C3,rel3⟩
    ·obtain⟨m,e1,_⟩:=q3
     cases e1.symm.trans hx
  ·refine(let GG:=_;(?_:GG))
   obtain⟨m,e1,_⟩:=q2
   cases e1.symm.trans hb
theorem A3z{α:Type}{r:Res α}(h:r.noX≠.stk):∃a,r=.ok a∧r.noX=.ok a:=by
 induction r using Res.casesOn with
 |stk=>exact absurd rfl h
 |exc=>exact absurd rfl h
 |ok a=>exact⟨a,rfl,rfl⟩
theorem A72{c:CE}{b:CSs}(h1:TrOk W G n Φ c)(h2:Fy W G n Φ b):StOk W G n Φ (.whl c b):=by
 intro cx len st r σ A fr env P η s hk hI hl C hne
 refine A3t hk fun x body f p hk=>Jr hk fun hk=>?_
 have hk:=band hk
 obtain⟨res,hw,e⟩:=A3z hne
 rw[show ex G.pol Φ (.whl c b) [r] σ=.ok res from e]
 exact wpAny_While (Yk hI h1 h2 hk.1 hk.2 hl C hw fun f s' q=>q)
end
end Mine.Internal
namespace Mine.Internal
open PySem PySem.W PyProof.Rows PySem.SeqAt PySem.MeetsSeq PySem.Calls
theorem C6{α:Type}:∀{names:List Str} {us:List α} {j:Nat} {x:Str},names.Nodup→names[j]?=some x→(names.zip us).lookup x=us[j]?
 |[],_,_,_,_,h=>by simp -iota at h
 |n::ns,[],j,x,_,h=>by simp -iota
 |n::ns,u::us,0,x,_,h=>by
  simp -iota at h;subst h;simp -iota [List.lookup_cons]
 |n::ns,u::us,j+1,x,nd,h=>by
  have hx:ns[j]?=some x:=by simpa -iota using h
  have hne:(x==n)=false:=by
   rw[List.nodup_cons]at nd
   simp -iota only[beq_eq_false_iff_ne]
   rintro rfl
   exact nd.1 (List.mem_of_getElem? hx)
  rw[List.zip_cons_cons,List.lookup_cons,hne]
  simpa -iota using C6 (List.nodup_cons.mp nd).2 hx
theorem Ic{α:Type}{S:List (Str×α)}:∀{names:List Str} {vs:List α},names.length=vs.length→(∀(j:Nat) (x:Str),names[j]?=some x→S.lookup x=vs[j]?)→(names.filterMap fun n=>(S.lookup n).map (n,·))=names.zip vs
 |[],[],_,_=>rfl
 |[],_::_,h,_=>by simp -iota at h
 |_::_,[],h,_=>by simp -iota at h
 |n::ns,v::vs,h,hS=>by
  have e0:=hS 0 n rfl
  have ih:=Ic (names:=ns) (vs:=vs) (by simpa -iota using h) fun j x e=>by simpa -iota using hS (j+1) x (by simpa -iota using e)
  rw[List.filterMap_cons,e0]
  show(n,v)::_=_
  rw[ih];rfl
theorem Dj{α:Type}{l:List (Str×α)}:∀{x:Str},x∉l.map (·.1)→l.lookup x=none:=by
 induction l with
 |nil=>
  intro _ _
  exact rfl
 |cons zz r ih=>
  obtain⟨n,v⟩:=zz
  intro x h
  have:(x==n)=false:=by simp -iota only[beq_eq_false_iff_ne];rintro rfl;exact h (by simp -iota)
  rw[List.lookup_cons,this]
  exact ih fun q=>h (by simp -iota only[List.map_cons,List.mem_cons];exact .inr q)
theorem Tt{α:Type}{x:Str}{a:List (Str×α)}:∀{b:List (Str×α)},(a++b).lookup x=(a.lookup x).or (b.lookup x):=by
 induction a with
 |nil=>
  intro _
  simp -iota
 |cons zz r ih=>
  obtain⟨n,v⟩:=zz
  intro b
  rw[List.cons_append,List.lookup_cons,List.lookup_cons]
  cases x==n with
  |true=>rfl
  |false=>exact ih
noncomputable def Ji{α:Type}(S:List (Str×α)):List (Str×α)→List (Str×α)
 |[]=>S
 |(n,d)::r=>Ji (if(S.lookup n).isNone then S++[(n,d)]else S) r
theorem T1{α:Type}{S:List (Str×α)}{n:Str}{d:α}{r:List (Str×α)}:Ji S ((n,d)::r)=Ji (if(S.lookup n).isNone then S++[(n,d)]else S) r:=rfl
theorem N7{α:Type}{x:Str}{L:List (Str×α)}:∀{S:List (Str×α)},(Ji S L).lookup x=(S.lookup x).or (L.lookup x):=by
 induction L with
 |nil=>
  intro S
  show S.lookup x=(S.lookup x).or none
  cases S.lookup x<;>rfl
 |cons zz r ih=>
  obtain⟨n,d⟩:=zz
  intro S
  rw[T1]
  rw[ih,List.lookup_cons]
  split
  ·rename_i h
   rw[Tt,List.lookup_cons,List.lookup_nil]
   cases hx:x==n with
   |true=>simp
   |false=>simp
  ·rename_i h
   cases hx:x==n with
   |true=>
    have:x=n:=beq_iff_eq.mp hx
    subst this
    cases q:S.lookup x with
    |none=>rw[q]at h;exact absurd rfl h
    |some v=>rfl
   |false=>rfl
section
variable {M:Model} {A:Around} {E:Value→Shared→Prop} {s:Shared}
theorem Xt(L:List (Str×Value)):∀(S:List (Str×Value)) (f:Str×Value→List (Str×Value)→Sem (ForInStep (List (Str×Value)))) (_:∀n d S,f (n,d) S=if(S.lookup n).isNone then pure (.yield (S++[(n,d)]))else pure (.yield S)),(forIn L S f:Sem _)=pure (Ji S L):=by
 induction L with
 |nil=>
  intro S f _
  exact rfl
 |cons zz r ih=>
  obtain⟨n,d⟩:=zz
  intro S f hf
  rw[List.forIn_cons,hf]
  rw[T1]
  split
  ·exact ih _ f hf
  ·exact ih _ f hf
theorem bd1{a b c:Nat}(l1:a≤c)(l2:c≤a+b)(l3:b≤c){j:Nat}(h:j<min (c-b) c):j<c∧j<a:=
 ⟨Nat.lt_of_lt_of_le h (Nat.min_le_right ..),Nat.lt_of_lt_of_le (Nat.lt_of_lt_of_le h (Nat.min_le_left ..)) (Nat.sub_le_of_le_add l2)⟩
theorem bd2{a b c j:Nat}(l3:b≤c)(l2:c≤a+b)(hge:a≤j):c-b+(j-(c-b))=j∧a+b-c+(j-a)=j-(c-b):=by
 obtain⟨t,rfl⟩:=Nat.exists_eq_add_of_le l3
 have ht:t≤a:=Nat.le_of_add_le_add_left (a:=b) (Nat.le_trans l2 (Nat.le_of_eq (Nat.add_comm a b)))
 obtain⟨u,rfl⟩:=Nat.exists_eq_add_of_le ht
 obtain⟨w,rfl⟩:=Nat.exists_eq_add_of_le hge
 rw[Nat.add_sub_cancel_left,Nat.add_sub_cancel_left,Nat.add_assoc t u w,Nat.add_sub_cancel_left,Nat.add_right_comm t u b,Nat.add_comm t b,Nat.add_sub_cancel_left]
 exact⟨rfl,rfl⟩
theorem bd3{a b c:Nat}(l1:a≤c)(l2:c≤a+b)(l3:b≤c):c=a+(b-(a+b-c)):=by
 obtain⟨u,rfl⟩:=Nat.exists_eq_add_of_le l1
 rw[Nat.add_sub_add_left,Nat.sub_sub_self (Nat.le_of_add_le_add_left l2)]
theorem A3y{names:List Str}{us:List Value}{b:Nat}(nd:names.Nodup)(l1:us.length≤names.length)(l2:names.length≤us.length+b)(l3:b≤names.length):(names.take (names.length-b)).filter (fun n=>((names.zip us).lookup n).isNone)=[]:=by
 rw[List.filter_eq_nil_iff]
 intro x hx
 obtain⟨j,hj,e⟩:=List.getElem_of_mem hx
 rw[List.length_take]at hj
 rw[List.getElem_take]at e
 obtain⟨q1,q2⟩:=bd1 l1 l2 l3 hj
 rw[C6 nd ((List.getElem?_eq_getElem q1).trans (congrArg some e)),List.getElem?_eq_getElem q2]
 exact Bool.false_ne_true
theorem A8w{names:List Str}{us ds:List Value}(nd:names.Nodup)(l2:names.length≤us.length+ds.length)(l3:ds.length≤names.length){j:Nat}{x:Str}(e:names[j]?=some x):(Ji (names.zip us) ((names.drop (names.length-ds.length)).zip ds)).lookup x=(us++ds.drop (us.length+ds.length-names.length))[j]?:=by
 rw[N7,C6 nd e]
 rcases Nat.lt_or_ge j us.length with hlt|hge
 ·rw[List.getElem?_append_left hlt,List.getElem?_eq_getElem hlt];rfl
 ·obtain⟨q1,q2⟩:=bd2 l3 l2 hge
  rw[List.getElem?_eq_none hge,List.getElem?_append_right hge,C6 (nd.sublist (List.drop_sublist _ _)) ((List.getElem?_drop ..).trans (by rw[q1];exact e)),List.getElem?_drop,q2]
  rfl
theorem Yj{α:Type}{M:Model}{A:Around}{s:Shared}{E:Value→Shared→Prop}{c:Prop}[Decidable c]{a b:Sem α}{Q:α→Shared→Prop}(hc:¬c)(h:wpAny M A b Q E s):wpAny M A (if c then a else b) Q E s:=by rw[if_neg hc];exact h
theorem bind_ok{fd:FuncData}{us ds:List Value}{names:List Str}{Q:List (Str×Value)→Shared→Prop}(h1:fd.params.posonlyargs=[])(h2:fd.params.kwonlyargs=[])(h3:fd.params.vararg=none)(h4:fd.params.kwarg=none)
 (hn:fd.params.args.map (·.arg)=names) (nd:names.Nodup) (hD:∀Q',(∀r,(r.getD #[]).toList=ds→Q' r s)→wpAny M A (seqItems? fd.defaults) Q' E s)
 (l1:us.length≤names.length) (l2:names.length≤us.length+ds.length) (l3:ds.length≤names.length) (h:Q (names.zip (us++ds.drop (us.length+ds.length-names.length))) s):wpAny M A (bindArgs fd ⟨us,[]⟩) Q E s:=by
 unfold bindArgs
 simp -iota only[h1,h2,h3,h4,hn,List.map_nil,List.nil_append,List.append_nil,List.forIn_nil,Option.isNone_none,Bool.and_true]
 refine wpAny_bind (wpAny_pure (wpAny_bind (hD _ fun r hr=>?_)))
 rw[hr]
 refine Yj (by simp -iota;omega) ?_
 have hd0:ds.drop (ds.length-names.length)=ds:=by rw[Nat.sub_eq_zero_of_le l3];rfl
 rw[hd0,A3y nd l1 l2 l3]
 refine Yj Bool.false_ne_true ?_
 rw[Xt _ _ _ fun n d S=>rfl]
 refine wpAny_bind (wpAny_pure (wpAny_bind (wpAny_pure (Yj Bool.false_ne_true (wpAny_pure ?_)))))
 have len:names.length=(us++ds.drop (us.length+ds.length-names.length)).length:=by rw[List.length_append,List.length_drop];exact bd3 l1 l2 l3
 exact(Ic len fun j x e=>A8w nd l2 l3 e)▸h
end
end Mine.Internal
namespace Mine.Internal
open PySem PySem.W PyProof.Rows PySem.SeqAt PySem.MeetsSeq PySem.Calls
variable {W:Wd} {P P' P0 P1 P2:GM} {fr:List Env} {h h' h0 h1 h2:Heap} {η η':List Addr} {σ σ':Sto} {env:Env}
noncomputable def Df(names:List Str):List (Str×Nat×Nat):=names.zipIdx.map fun e=>(e.1,0,e.2)
theorem Mq{x:Str}{d i:Nat}(names:List Str):∀{k:Nat},((names.zipIdx k).map fun e=>(e.1,0,e.2)).lookup x=some (d,i)→d=0∧∃m,i=k+m∧names[m]?=some x:=by
 induction names with
 |nil=>exact fun h=>nomatch h
 |cons n ns ih=>
  intro k h
  rw[List.zipIdx_cons,List.map_cons,List.lookup_cons]at h
  cases hb:x==n with
  |true=>
   rw[hb]at h;cases h
   exact⟨rfl,0,rfl,congrArg some (beq_iff_eq.mp hb).symm⟩
  |false=>
   rw[hb]at h
   obtain⟨a,m,b,c⟩:=ih h
   exact⟨a,m+1,by rw[b,Nat.add_assoc,Nat.add_comm 1 m],c⟩
theorem D8{names:List Str}{x:Str}{d i:Nat}(h:(Df names).lookup x=some (d,i)):d=0∧names[i]?=some x:=by
 obtain⟨a,m,b,c⟩:=Mq names h
 exact⟨a,by rw[b,Nat.zero_add];exact c⟩
structure FnRec(W:Wd)(G:Gl)(a:Addr)(c:FC)(fo:Obj)(name qual:Str)(params:Arguments)(body:List Stmt)(scope:Scope)(dV kV doc pm:Value)(an:Option Addr)(cdv ct:Value)(names:List Str)(ds:List Value):Prop where
 at':W.base.get? a=some fo
 data:fo.data=.func (fnX name qual params body scope [] dV kV doc pm an cdv ct)
 code:W.base.CodeRec cdv qual
 p1:params.posonlyargs=[]
 p2:params.kwonlyargs=[]
 p3:params.vararg=none
 p4:params.kwarg=none
 p5:params.args.map (·.arg)=names.take c.np
 len:names.length=c.nv
 nd:names.Nodup
 np:c.np≤c.nv
 kind:scope.kind=.function
 co:scope.isCoroutine=false
 gen:scope.isGenerator=false
 snd:(scope.names.map (·.1)).Nodup
 n1:∀x∈names,scope.names.lookup x=some .local∨scope.names.lookup x=some .cell
 n2:∀x,(x,NameKind.cell)∈scope.names→x∈names
 ck:ckSs G ⟨scope.names,Df names⟩ c.body body=true
 dfl:∀P,Rvs W P c.dfl ds
 dV:(dV=.none∧ds=[])∨∃t o k,dV=.ref t∧W.base.get? t=some o∧o.data=.seq ds.toArray k
inductive FnOK(W:Wd)(G:Gl)(a:Addr)(c:FC):Prop
 |mk:∀fo name qual params body scope dV kV doc pm an cdv ct names ds,FnRec W G a c fo name qual params body scope dV kV doc pm an cdv ct names ds→FnOK W G a c
theorem Qk{kd:Str→Option NameKind}{x:Str}(hx:kd x=some .local){binds:List (Str×Value)}:∀{m:Str→Option Value},(binds.map (·.1)).Nodup→bindL kd binds m x=(binds.lookup x).or (m x):=by
 induction binds with
 |nil=>
  intro m _
  simp[bindL]
 |cons zz r ih=>
  obtain⟨n,v⟩:=zz
  intro m nd
  rw[List.map_cons,List.nodup_cons]at nd
  unfold bindL
  rw[ih nd.2,List.lookup_cons]
  cases hb:x==n with
  |true=>
   have:x=n:=beq_iff_eq.mp hb
   subst this
   rw[Dj nd.1,if_pos hx];simp
  |false=>
   have hne:x≠n:=by simpa using hb
   split
   ·simp[hne]
   ·rfl
theorem Ql{kd:Str→Option NameKind}{x:Str}(hx:kd x≠some .local){binds:List (Str×Value)}:∀{m:Str→Option Value},(binds.map (·.1)).Nodup→bindC kd binds m x=(binds.lookup x).or (m x):=by
 induction binds with
 |nil=>
  intro m _
  simp[bindC]
 |cons zz r ih=>
  obtain⟨n,v⟩:=zz
  intro m nd
  rw[List.map_cons,List.nodup_cons]at nd
  unfold bindC
  rw[ih nd.2,List.lookup_cons]
  cases hb:x==n with
  |true=>
   have:x=n:=beq_iff_eq.mp hb
   subst this
   rw[Dj nd.1,if_neg hx];simp
  |false=>
   have hne:x≠n:=by simpa using hb
   split
   ·rfl
   ·simp[hne]
theorem RVs.length'{xs:List Val}{us:List Value}(r:RVs (W:=W) P η xs us):xs.length=us.length:=by
 induction xs generalizing us with
 |nil=>cases r;rfl
 |cons x xs ih=>cases r with|cons _ r=>simp -iota [ih r]
theorem RVs.get{xs:List Val}{us:List Value}(r:RVs (W:=W) P η xs us):∀{j:Nat} {x:Val},xs[j]?=some x→∃v,us[j]?=some v∧RV (W:=W) P η x v:=by
 induction xs generalizing us with
 |nil=>intro j x e;simp -iota at e
 |cons y xs ih=>cases r with
  |cons a r=>intro j x e;induction j using Nat.casesOn with
   |zero=>simp -iota at e;subst e;exact⟨_,rfl,a⟩
   |succ j=>simp -iota at e;obtain⟨v,hv,hr⟩:=ih r e;exact⟨v,by simpa -iota using hv,hr⟩
section
variable {G:Gl} {n:Nat} {Φ:Phi}
theorem Ye{c:FC}{vs:List Val}{us ds:List Value}{row:List (Option Val)}(e:Ey c vs=some row)(r:RVs (W:=W) P η vs us)(rd:Rvs W P c.dfl ds)(hnp:c.np≤c.nv):
 us.length≤c.np∧c.np≤us.length+ds.length∧ds.length≤c.np∧row.length=c.nv∧∀i,OVR W P η ((row[i]?).join) (if i<c.np then(us++ds.drop (us.length+ds.length-c.np))[i]? else none):=by
 unfold Ey at e
 refine(let GG:=_;(?_:GG))
 have hl:=r.length'
 have hd:=rd.length
 refine onIf e fun hc e=>?_
 obtain⟨h1,h2,h3⟩:=hc
 rw[hl]at h1 h2
 rw[hd]at h2 h3
 cases e
 have hlen:(List.map some vs++List.map (fun x=>some (Val.v x)) (List.drop (vs.length+c.dfl.length-c.np) c.dfl)).length=c.np:=by
  rw[List.length_append,List.length_map,List.length_map,List.length_drop,hl,hd];exact(bd3 h1 h2 h3).symm
 refine⟨h1,h2,h3,?_,fun i=>?_⟩
 ·rw[List.length_append,hlen,List.length_replicate];exact Nat.add_sub_cancel' hnp
 ·rcases Nat.lt_or_ge i c.np with q2|q2
  ·rw[if_pos q2,List.getElem?_append_left (by rw[hlen];exact q2)]
   rcases Nat.lt_or_ge i us.length with q|q
   ·rw[List.getElem?_append_left (by rw[List.length_map,hl];exact q),List.getElem?_append_left q]
    have hi:i<vs.length:=hl▸q
    obtain⟨v,hv,rv⟩:=r.get (List.getElem?_eq_getElem hi)
    rw[List.getElem?_map,List.getElem?_eq_getElem hi,hv]
    exact rv
   ·rw[List.getElem?_append_right (by rw[List.length_map,hl];exact q),List.getElem?_append_right q]
    have hj:(us.length+ds.length-c.np)+(i-us.length)<c.dfl.length:=by
     rw[hd];exact Nat.add_lt_of_lt_sub' (Nat.sub_lt_left_of_lt_add q (bd3 h1 h2 h3▸q2))
    obtain⟨v,hv,rv⟩:=rd.get (List.getElem?_eq_getElem hj)
    rw[List.length_map,hl,hd,List.getElem?_map,List.getElem?_drop,List.getElem?_eq_getElem hj,List.getElem?_drop,hv]
    exact .v rv
  ·rw[if_neg (Nat.not_lt.mpr q2),List.getElem?_append_right (by rw[hlen];exact q2)]
   have:∀m k:Nat,((List.replicate m (none:Option Val))[k]?).join=none:=fun m k=>by
    rw[List.getElem?_replicate];split<;>rfl
   rw[this];trivial
theorem Ul(names:List (Str×NameKind)):∀(n:Nat) (acc:List (Str×Addr)),(names.map (·.1)).Nodup→(acc.map (·.1)).Nodup→(∀x∈acc.map (·.1),x∉names.map (·.1))→((cellsFrom n names acc).map (·.1)).Nodup:=by
 induction names with
 |nil=>
  intro _ _ _ h _
  exact h
 |cons zz r ih=>
  obtain⟨nm,k⟩:=zz
  intro n acc nd ha hd
  rw[List.map_cons,List.nodup_cons]at nd
  unfold cellsFrom
  split
  ·refine ih _ _ nd.2 ?_ ?_
   ·rw[List.map_cons,List.nodup_cons]
    exact⟨fun q=>hd nm q (by simp -iota),ha⟩
   ·intro x hx
    rw[List.map_cons]at hx
    rcases List.mem_cons.mp hx with rfl|hx
    ·exact nd.1
    ·exact fun q=>hd x hx (by rw[List.map_cons];exact List.mem_cons_of_mem _ q)
  ·exact ih _ _ nd.2 ha fun x hx q=>hd x hx (by rw[List.map_cons];exact List.mem_cons_of_mem _ q)
theorem Jb{names:List (Str×NameKind)}{n:Nat}(h:(names.map (·.1)).Nodup):((cellsFrom n names []).map (·.1)).Nodup:=Ul names n [] h List.nodup_nil fun J hx=>by cases hx
theorem Be{α:Type}:∀{l:List (Str×α)} {x:Str} {v:α},(l.map (·.1)).Nodup→(x,v)∈l→l.lookup x=some v
 |(n,u)::r,x,v,nd,hm=>by
  rw[List.map_cons,List.nodup_cons]at nd
  rw[List.lookup_cons]
  rcases List.mem_cons.mp hm with e|hm2
  ·cases e;simp
  ·have:(x==n)=false:=by
    simp only[beq_eq_false_iff_ne];rintro rfl
    exact nd.1 (List.mem_map.mpr ⟨_,hm2,rfl⟩)
   rw[this];exact Be nd.2 hm2
theorem Nc{names:List Str}{i:Nat}{x:Str}(nd:names.Nodup)(h:names[i]?=some x):(Df names).lookup x=some (0,i):=by
 have hi:i<names.length:=by
  rcases Nat.lt_or_ge i names.length with q|q
  ·exact q
  ·rw[List.getElem?_eq_none q]at h;cases h
 refine Be ?_ ?_
 ·have:(Df names).map (·.1)=names:=by unfold Df;rw[List.map_map];exact List.zipIdx_map_fst 0 names
  rw[this];exact nd
 ·unfold Df
  refine List.mem_map.mpr ⟨(x,i),?_,rfl⟩
  rw[List.mem_zipIdx_iff_getElem?];exact h
set_option backward.match.sparseCases true in
theorem Se(hS:By W)(hnolim:∀{P:GM} {fr:List Env} {h:Heap},Inv W P fr h→h.NoLimit){a:Addr}{c:FC}{fo:Obj}{name qual:Str}{params:Arguments}{body:List Stmt}{scope:Scope}{dV kV doc pm:Value}{an:Option Addr}{cdv ct:Value}{names:List Str}{ds:List Value}
 (F:FnRec W G a c fo name qual params body scope dV kV doc pm an cdv ct names ds) {vs:List Val} {us:List Value} {row:List (Option Val)} {A:Around} {s:Shared} (hA:AOKw A fr (n+1)) (I:Inv W P fr s.heap) (S:SR W P η σ)
 (r:RVs (W:=W) P η vs us) (hrow:Ey c vs=some row) {R:Result→Shared→Prop}
 (k:∀env h1 tk1,InFn W (A.deeper env) (env::fr) env ⟨scope.names,Df names⟩ c.nv n→row.length=c.nv→Cur W (env::fr) ⟨scope.names,Df names⟩ env [row] P η σ h1→(∀b o,s.heap.get? b=some o→h1.get? b=some o)→(∀b∈own env,s.heap.get? b=none)→env.frame=some env.locals→
  wpAny (md W) (A.deeper env) (execs body env) (fun f s'=>R (.ok (.ret (match f with|.ret v=>v|_=>.none))) s')
   (fun e s'=>wpAny (md W) (A.deeper env) (leaving env e) (fun J s''=>R (.error e) s'') (fun e' s''=>R (.error e') s'') s') {s with heap:=h1,toks:=tk1}):
 codeAny (md W) A (.call (.ref a) ⟨us,[]⟩) R s:=by
 refine(let GG:=_;(?_:GG))
 have kb:∀b o,W.base.get? b=some o→s.heap.get? b=some o:=fun b o e=>(I.base b o e).1
 have rd:=F.dfl P
 obtain⟨l1,l2,l3,hlen,hov⟩:=Ye hrow r rd F.np
 have hnames:(names.take c.np).length=c.np:=by rw[List.length_take,F.len];exact Nat.min_eq_left F.np
 have ndt:(names.take c.np).Nodup:=F.nd.sublist (List.take_sublist _ _)
 refine codeAny_call_function (fd:=fnX name qual params body scope [] dV kV doc pm an cdv ct) (Nat.lt_of_le_of_lt (Nat.le_trans (Nat.le_add_right _ (2*(n+1))) (Nat.le_trans (Nat.le_add_right _ 7) hA.depth)) (by decide)) (kb _ _ F.at') F.data F.co F.gen rfl (F.code.keeps kb) ?_
 refine bind_ok F.p1 F.p2 F.p3 F.p4 F.p5 ndt (ds:=ds) (fun Q' hQ=>?_) (by rw[hnames];exact l1) (by rw[hnames];exact l2) (by rw[hnames];exact l3) ?_
 ·refine(let GG:=_;(?_:GG))
  rcases F.dV with⟨e1,e2⟩|⟨t,o,k,e1,e2,e3⟩
  ·show wpAny _ _ (seqItems? dV) _ _ _
   rw[e1]
   exact wpAny_pure (hQ none (by rw[e2];rfl))
  ·show wpAny _ _ (seqItems? dV) _ _ _
   rw[e1]
   unfold seqItems?
   refine wpAny_bind (wpAny_load (kb _ _ e2) ?_)
   rw[e3]
   exact wpAny_pure (hQ _ (by simp -iota))
 rw[hnames]
 generalize hbd:(names.take c.np).zip (us++ds.drop (us.length+ds.length-c.np))=binds
 have hlv:(names.take c.np).length=(us++ds.drop (us.length+ds.length-c.np)).length:=by rw[hnames,List.length_append,List.length_drop];exact bd3 l1 l2 l3
 have hkeys:binds.map (·.1)=names.take c.np:=by rw[←hbd];exact List.map_fst_zip (Nat.le_of_eq hlv)
 have hbnd:(binds.map (·.1)).Nodup:=by rw[hkeys];exact ndt
 have hcl:∀x k,(x,NameKind.cell)∈scope.names→∃d,(cellsFrom k scope.names []).lookup x=some d:=fun x k hx=>by
  obtain⟨c',hc'⟩:=Eb scope.names k [] x (.inl hx)
  exact Cy hc'
 refine wpAny_newFunctionEnv_cells F.kind (fun x hx=>?_) fun env he s' X=>?_
 ·refine(let GG:=_;(?_:GG))
  have hm:x.1∈names:=by
   have:x.1∈binds.map (·.1):=List.mem_map_of_mem hx
   rw[hkeys]at this
   exact List.mem_of_mem_take this
  rcases F.n1 x.1 hm with q|q
  ·exact .inl q
  ·obtain⟨d,hd⟩:=hcl x.1 (s.heap.objs.size+1) (mem_of_lookup q)
   exact .inr ⟨q,by rw[hd];rfl⟩
 have kp:=X.toInCall.keep
 refine⟨(hnolim I).keeps kp,codeAny_func ?_⟩
 have hloc:env.locals=s.heap.objs.size:=by rw[he];rfl
 have hkd:∀x,env.kindOf x=scope.names.lookup x:=fun x=>by rw[he];rfl
 have hcells:env.cells=cellsFrom (s.heap.objs.size+1) scope.names []:=by rw[he];rfl
 have hfrm:env.frame=some s.heap.objs.size:=by rw[he];rfl
 have hL0:s.heap.get? env.locals=none:=by rw[hloc];exact Ak _
 have ownF:∀b∈own env,s.heap.get? b=none:=fun b hb=>by
  rcases List.mem_cons.mp hb with rfl|hb
  ·exact hL0
  ·obtain⟨⟨y,d⟩,hm,rfl⟩:=List.mem_map.mp hb
   have:=X.above y d hm
   rw[hloc]at this
   exact Heap.get?_none_of_le (Nat.le_of_lt this)
 have ownB:∀b∈own env,W.base.get? b=none:=fun b hb=>Bc I (ownF b hb)
 have mem1:∀y d,(y,d)∈env.cells→env.cells.lookup y=some d∧(y,NameKind.cell)∈scope.names:=fun y d hm=>by
  have hnd:(env.cells.map (·.1)).Nodup:=by
   rw[hcells]
   exact Jb F.snd
  refine⟨Be hnd hm,?_⟩
  rw[hcells]at hm
  rcases Ob scope.names (s.heap.push {cls:=.type "frame",data:=.dict #[]}) [] y d (by rw[Heap.size_push];exact hm)with q|⟨q,_⟩
  ·cases q
  ·exact q
 have hcx:∀x d i,(Df names).lookup x=some (d,i)→d=0∧i<c.nv∧(scope.names.lookup x=some .local∨scope.names.lookup x=some .cell):=fun x d i e=>by
  obtain⟨a1,a2⟩:=D8 e
  have:i<names.length:=by
   rcases Nat.lt_or_ge i names.length with q|q
   ·exact q
   ·rw[List.getElem?_eq_none q]at a2;cases a2
  exact⟨a1,by rw[←F.len];exact this,F.n1 x (List.mem_of_getElem? a2)⟩
 have hbl:∀x i,names[i]?=some x→binds.lookup x=if i<c.np then(us++ds.drop (us.length+ds.length-c.np))[i]? else none:=fun x i e=>by
  split
  ·rename_i q
   rw[←hbd]
   exact C6 ndt (by rw[List.getElem?_take];rw[if_pos q];exact e)
  ·rename_i q
   refine Dj fun hm=>?_
   rw[hkeys]at hm
   obtain⟨j,hj,ej⟩:=List.getElem_of_mem hm
   rw[List.length_take]at hj
   rw[List.getElem_take]at ej
   have hj2:=Nat.lt_of_lt_of_le hj (Nat.min_le_right _ _)
   have:=(List.getElem?_inj hj2 F.nd).mp (show names[j]?=names[i]? by rw[e,List.getElem?_eq_getElem hj2,ej])
   exact q (this▸Nat.lt_of_lt_of_le hj (Nat.min_le_left _ _))
 have hp0:∀b,s.heap.get? b=none→P b=none:=fun b=>Ad I
 have R0:EnvR W ⟨scope.names,Df names⟩ env P η s'.heap [row]:=by
  refine(let GG:=_;(?_:GG))
  refine⟨by rw[he];exact F.kind,by rw[he];rfl,by rw[he];rfl,by rw[he];rfl,⟨_,X.toInCall.ns⟩,hp0 _ hL0,Bc I hL0,fun x y d hx hy=>?_,fun x d i e=>?_⟩
  ·exact name_of_addr X.apart (mem_of_lookup hx) (mem_of_lookup hy)
  ·obtain⟨rfl,a2⟩:=D8 e
   have rel:=hov i
   rw[←hbl x i a2]at rel
   have hgv:getV [row] 0 i=(row[i]?).join:=rfl
   rw[hgv]
   obtain⟨_,_,hk⟩:=hcx x 0 i e
   rcases hk with hk|hk
   ·refine .inl ⟨by rw[hkd];exact hk,_,X.toInCall.ns,?_⟩
    rw[Qk (by rw[hkd];exact hk) hbnd]
    simpa -iota using rel
   ·have hm:=mem_of_lookup hk
    obtain⟨d,hd⟩:=hcl x (s.heap.objs.size+1) hm
    rw[←hcells]at hd
    have hf:=ownF d (List.mem_cons_of_mem _ (List.mem_map.mpr ⟨(x,d),mem_of_lookup hd,rfl⟩))
    refine .inr ⟨.inl (by rw[hkd];exact hk),d,_,hd,X.cell x d hd,hp0 _ hf,Bc I hf,?_⟩
    rw[Ql (by rw[hkd,hk];simp -iota) hbnd]
    simpa -iota using rel
 obtain⟨h1,tk1,rfl,_⟩:=X.toInCall.done
 dsimp -iota only at kp R0 X
 have I1:Inv W P fr h1:=Bg hS I kp
 have I2:Inv W P (env::fr) h1:=⟨I1.gh,I1.base,I1.sys,fun e he'=>by
  refine(let GG:=_;(?_:GG))
  rcases List.mem_cons.mp he' with rfl|he'
  ·exact⟨_,_,hfrm,by rw[he];show scope.kind≠_;rw[F.kind];simp -iota,hloc▸X.toInCall.ns,by rw[←hloc];exact Bc I hL0,by rw[←hloc];exact hp0 _ hL0⟩
  ·exact I1.frames e he'⟩
 have C1:Cur W (env::fr) ⟨scope.names,Df names⟩ env [row] P η σ h1:=⟨I2,S,R0⟩
 have hA':AOK (A.deeper env) (env::fr) n:=hA.deep hA.handled (Around.frames_deeper hA.frames) rfl rfl
 have hIn:InFn W (A.deeper env) (env::fr) env ⟨scope.names,Df names⟩ c.nv n:=⟨hA',⟨hcx,fun x y i e1 e2=>?_⟩,⟨ownB⟩,⟨fr,rfl⟩,⟨_,hfrm⟩,fun y d hm=>(mem1 y d hm).1,fun y d hd=>?_⟩
 rotate_left
 ·obtain⟨_,a2⟩:=D8 e1
  obtain⟨_,b2⟩:=D8 e2
  rw[a2]at b2;exact(Option.some.inj b2).symm
 ·obtain⟨_,hm⟩:=mem1 y d (mem_of_lookup hd)
  have hy:=F.n2 y hm
  obtain⟨i,hi,e⟩:=List.getElem_of_mem hy
  refine⟨0,i,Nc F.nd (by rw[List.getElem?_eq_getElem hi,e]),?_⟩
  exact .inl (Be F.snd hm)
 exact k env h1 tk1 hIn hlen C1 kp ownF (hfrm.trans (congrArg some hloc.symm))
theorem Zq(hG:GlOK W G)(hS:By W)(hnolim:∀{P:GM} {fr:List Env} {h:Heap},Inv W P fr h→h.NoLimit){a:Addr}{c:FC}(hF:FnOK W G a c)(hB:Fy W G n Φ c.body){vs:List Val}{us:List Value}{row:List (Option Val)}{A:Around}{s:Shared}(hA:AOKw A fr (n+1))(I:Inv W P fr s.heap)(S:SR W P η σ)
 (r:RVs (W:=W) P η vs us) (hrow:Ey c vs=some row) {res:Res (Val×Sto)} (hres:res=(exs G.pol Φ c.body [row] σ).bind fun r=>match r.1 with
  |.ret x=>.ok (norm r.2.2 x,r.2.2)
  |.next=>.ok (.v .none,r.2.2)) (hne:res≠.stk):
 codeAny (md W) A (.call (.ref a) ⟨us,[]⟩) (Sm W fr P η s res) s:=by
 obtain⟨fo,name,qual,params,body,scope,dV,kV,doc,pm,an,cdv,ct,names,ds,F⟩:=hF
 refine Se hS hnolim F hA I S r hrow fun env h1 tk1 hIn hl C1 kp ownF hfrm=>?_
 have ownB:=hIn.at'.1
 have I2:=C1.I
 have hA':=hIn.A
 have hneB:exs G.pol Φ c.body [row] σ≠.stk:=by rw[hres]at hne;exact D3 hne
 have st1:Stp (env::fr) P s.heap P h1:=Ba kp
 have toFr:∀{P':GM} {h':Heap},Stp (env::fr) P s.heap P' h'→Stp fr P s.heap P' h':=fun st=>⟨st.le,st.new,st.dom,fun b o e hp=>by
  obtain⟨sl,e1,k⟩:=st.keep b o e hp
  refine⟨sl,e1,fun nf=>k fun e' he'=>?_⟩
  rcases List.mem_cons.mp he' with rfl|he'
  ·intro q;rw[hfrm]at q;cases q
   rw[ownF _ List.mem_cons_self]at e;cases e
  ·exact nf e' he'⟩
 have toInv:∀{P':GM} {h':Heap},Inv W P' (env::fr) h'→Inv W P' fr h':=fun I'=>⟨I'.gh,I'.base,I'.sys,fun e he'=>I'.frames e (List.mem_cons_of_mem _ he')⟩
 refine wpAny_mono (hB ⟨scope.names,Df names⟩ c.nv body row σ (A.deeper env) (env::fr) env P η {s with heap:=h1,toks:=tk1} F.ck hIn hl C1 hneB) (fun f s2 q=>?_) (fun e s2 q=>?_)
 ·obtain⟨fl,r2,σ2,e2,_,h2,tk2,P2,η2,rfl,st2,pr2,C2,rel2⟩:=q
  have st:=toFr (Stp.transF ownF st1 st2)
  have I2':=toInv C2.I
  rw[e2]at hres
  induction fl using Fl.casesOn with
  |next=>
   cases f<;>first|exact rel2.elim|skip
   exact⟨.v .none,σ2,hres,h2,tk2,P2,η2,rfl,st,pr2,I2',C2.S,.v .none⟩
  |ret x=>
   cases f<;>first|exact rel2.elim|skip
   exact⟨norm σ2 x,σ2,hres,h2,tk2,P2,η2,rfl,st,pr2,I2',C2.S,Pd C2.S rel2⟩
 ·obtain⟨m,e1,h2,tk2,P2,x,rfl,rfl,st2,I2',F2⟩:=q
  rw[e1]at hres
  have hBI:Ct W (rest env h1):=(FnAt.mk ownB).baseIn I2
  refine Tw (s:={s with heap:=h2,toks:=tk2}) hA'.frames hfrm hBI st2 I2' F2 fun h3 st3 I3 F3=>?_
  exact⟨m,hres,h3,tk2,P2,x,rfl,rfl,toFr (Stp.transF ownF st1 st3),toInv I3,F3.fly.back fun b e=>U8 ownF st1 I2 e⟩
end
end Mine.Internal
namespace Mine.Internal
open PySem PySem.W PyProof.Rows PySem.SeqAt PySem.MeetsSeq PySem.Calls
section
variable {prog:Program} {w:World} {A:Around} {E:Value→Shared→Prop} {h:Heap} {g:Array GenState} {d:Drawn} {t:Nat} {os:OsState}
variable {nm q:Str} {C N:Addr} {bs bm bmB:List Value} {hdct:Bool} {sn:List Str} {sub:List Value} {ab:Bool} {col:Option Bool} {dd:Option Addr} {k0 k1 k2 k3 k5:Option Value} {B newId initId:String}
theorem K5(F:ExcBaseFacts B newId initId bmB)(T:OwnTail h bmB bm){mN:Str→Option Value}{rest:List Value}{fI:Addr}{oI:Obj}{Q:Fin→Shared→Prop}
 (hC:h.get? C=some (excClassObj nm q C N bs bm hdct sn sub ab col dd k0 k1 k2 k3 k5 newId)) (hn:h.Ns N mN) (hi:mN "__init__"=some (.ref fI))
 (hfI:h.get? fI=some oI) (hfc:oI.cls=.type "function")
 (hq:∀h' e,Heap.MadeExcOf h h' e (.ref C) rest→
  wpAny (model prog w) A (call (.ref fI) (.ref e::rest)) (fun r s'=>r=.none∧Q (.done (.ret (.ref e))) s') E ⟨h',g,d,t,os⟩) (hrest:rest.length≤sizeLine):
 wpAny (model prog w) A (Builtin.«type.__call__» ⟨.ref C::rest,[]⟩) Q E ⟨h,g,d,t,os⟩:=by
 repeat(first|with_reducible refine wpAny_loadPart_at hC ?_|with_reducible refine wpAny_madeBy_exc hC ?_|wp_step)
 refine codeAny_call_builtin_code (Code.quiet_builtin _ F.quiet) (wpAny_check_new_subT F T hC ?_)
 refine codeAny_exc_new_subT F T hC ?_ hrest
 show wpAny _ _ _ _ _ _
 have hC₁:=Heap.get?_push_of_some {cls:=.ref C,data:=.fields #[.ref h.objs.size,.none,.none,.none,.bool false,.none]}
  (Heap.get?_push_of_some {cls:=.type "tuple",data:=.seq rest.toArray} hC)
 have hfI₁:=Heap.get?_push_of_some {cls:=.ref C,data:=.fields #[.ref h.objs.size,.none,.none,.none,.bool false,.none]}
  (Heap.get?_push_of_some {cls:=.type "tuple",data:=.seq rest.toArray} hfI)
 have hn₁:((h.push {cls:=.type "tuple",data:=.seq rest.toArray}).push {cls:=.ref C,data:=.fields #[.ref h.objs.size,.none,.none,.none,.bool false,.none]}).Ns N mN:=
  let⟨o,es,ep,e,r⟩:=hn;⟨o,es,ep,Heap.get?_push_of_some _ (Heap.get?_push_of_some _ e),r⟩
 have hget:((h.push {cls:=.type "tuple",data:=.seq rest.toArray}).push
  {cls:=.ref C,data:=.fields #[.ref h.objs.size,.none,.none,.none,.bool false,.none]}).get? (h.objs.size+1)=some
  {cls:=.ref C,data:=.fields #[.ref h.objs.size,.none,.none,.none,.bool false,.none]}:=by heap_get
 have hcC:(Value.ref C::bm).contains (.ref C)=true:=by simp
 have T₁:=T.keeps (h':=(h.push {cls:=.type "tuple",data:=.seq rest.toArray}).push {cls:=.ref C,data:=.fields #[.ref h.objs.size,.none,.none,.none,.bool false,.none]})
  fun b o e=>Heap.get?_push_of_some _ (Heap.get?_push_of_some _ e)
 unfold isInstance
 repeat(first|with_reducible refine wpAny_loadPart_at hget ?_|(with_reducible refine wpAny_isSubtype_exc hC₁ ?_;rw[hcC])|wp_step)
 show wpAny _ _ (typeLookup (.ref C) _) _ _ _
 refine wpAny_typeLookup_tail hC₁ hn₁ T₁ F.mroIs F.init.lookup ?_
 rw[hi]
 refine wpAny_holding (wpAny_bind ?_)
 unfold bindSpecial
 refine wpAny_bind (wpAny_typeOf (T:="function") ⟨_,hfI₁,hfc⟩ ?_)
 rw[if_pos (by decide)]
 refine wpAny_pure (wpAny_bind (wpAny_mono (hq _ (h.objs.size+1) ⟨fun b o hb=>Heap.get?_push_of_some _ (Heap.get?_push_of_some _ hb),Heap.get?_none_of_le (Nat.le_succ _),h.objs.size,hget,Heap.get?_none_of_le (Nat.le_refl _),?_⟩) (fun r s' hr=>?_) fun J J x=>x))
 ·exact Heap.get?_push_of_some _ (Heap.get?_push_at rfl rfl)
 ·obtain⟨rfl,hQ⟩:=hr
  wp_walk
  exact hQ
theorem Um(F:ExcBaseFacts B newId initId bmB)(T:OwnTail h bmB bm){mN:Str→Option Value}{rest:List Value}{fI:Addr}{oI:Obj}{Q:Value→Shared→Prop}
 (hC:h.get? C=some (excClassObj nm q C N bs bm hdct sn sub ab col dd k0 k1 k2 k3 k5 newId)) (hn:h.Ns N mN) (hi:mN "__init__"=some (.ref fI))
 (hfI:h.get? fI=some oI) (hfc:oI.cls=.type "function")
 (hq:∀h' e,Heap.MadeExcOf h h' e (.ref C) rest→
  wpAny (model prog w) (A.under (.builtin "type.__call__" ⟨.ref C::rest,[]⟩)) (call (.ref fI) (.ref e::rest)) (fun r s'=>r=.none∧Q (.ref e) s') E ⟨h',g,d,t,os⟩) (hrest:rest.length≤sizeLine):
 wpAny (model prog w) A (call (.ref C) rest) Q E ⟨h,g,d,t,os⟩:=by
 have f1:=tc_lookup
 have f2:=tc_bind (.ref C)
 have hT:(⟨h,g,d,t,os⟩:Shared).TypeIs (.ref C) "type":=⟨_,hC,rfl⟩
 refine wpAny_call (codeAny_of_tree ?_)
 show wpAny _ _ (callAny (.ref C) _) _ _ _
 repeat(any_goals(first|assumption|with_reducible refine wpAny_loadPart_at hC ?_|wp_step))
 refine⟨rfl,?_⟩
 refine codeAny_call_builtin_at (Code.quiet_builtin _ (by decide+kernel)) entry_typeCall (wpAny_check_type_call_sub hC (K5 (hrest:=hrest) F T hC hn hi hfI hfc fun h' e hm=>?_))
 exact hq h' e hm
end
section
variable {prog:Program} {w:World} {A:Around} {E:Value→Shared→Prop} {s:Shared} {K:Frag} {R:Result→Shared→Prop} {x C:Addr}
theorem A3r{ox:Obj}{od:Option Obj}{name:Str}{tk:Tok}{v:Value}{cd:ClassData}(X:K.In s.heap)(I:PySem.W.InstAt s.heap x ox C od)(hc:clsIn K C=some cd)(hm0:cd.mro.isEmpty=false)(ho:cd.mro.contains (.type "object")=true)
 (hp:refuseLoop (.ref x) "__setattr__" cd.mro=pure ()) (ht:takerIn K C name=some none)
 (h:∀b,wpAny (model prog w) A.in1 (Builtin.ObjectAttr.storeInOwnDict (.ref x) (.ref C) (.str name tk) name v b)
  (fun fin s'=>match fin with|.done f=>R (.ok f) s'|.again c'=>c'.quiet=true∧codeAny (model prog w) A c' R s') (fun e s'=>R (.error e) s') s):
 codeAny (model prog w) A (.call (.builtin "object.__setattr__") ⟨[.ref x,.str name tk,v],[]⟩) R s:=by
 have SF:=PySem.F.store_object
 have sub:Looks (model prog w) s.heap (isInstance (.ref x) (.type "object")) true:=I.type.andThen (looks_mroIn X (by unfold mroIn;rw[hc,Option.bind_some,if_neg (by rw[hm0];decide),ho]))
 refine codeAny_call_builtin SF.slot.plain SF.entry (@check_slot (model prog w) _ _ s "object.__setattr__" "object" "__setattr__" (.ref x) [.str name tk,v] [] _ SF.kind SF.split sub (SF.args (.ref x) (.str name tk) v) ?_)
 obtain⟨attr,ha,hr⟩:=Option.bind_eq_some_iff.mp ht
 have hm:Looks (model prog w) s.heap (mroOf (.ref C)) cd.mro:=(looks_clsIn X hc).andThen .now
 have L3:Looks (model prog w) s.heap (Builtin.ObjectAttr.storeTaker? attr) none:=by
  induction attr using Option.casesOn with
  |none=>exact .now
  |some a=>
   obtain⟨b,hb,e⟩:=Option.map_eq_some_iff.mp hr
   refine(looks_takesIn X hb).andThen ?_
   induction b using Bool.casesOn<;>first|exact .now|cases e
 rw[osa_eq,refuse_eq]
 refine wpAny_bind (wpAny_bind (I.type.here (wpAny_bind (hm.here ?_))))
 rw[hp]
 refine wpAny_pure (wpAny_bind (I.type.here (wpAny_bind ((looks_findIn X ha).here (wpAny_bind (L3.here ?_))))))
 exact h _
theorem A3c{ox:Obj}{name:Str}{v:Value}{cd:ClassData}{Q:Unit→Shared→Prop}(X:K.In s.heap)(hx:s.heap.get? x=some ox)(hcl:ox.cls=.ref C)(hd:ox.dict=none){vs:Array Value}(hf:ox.data=.fields vs)
 (hs:findIn K (.ref C) "__setattr__"=some (some (.builtin "object.__setattr__"))) (hc:clsIn K C=some cd) (hm0:cd.mro.isEmpty=false) (ho:cd.mro.contains (.type "object")=true)
 (hp:refuseLoop (.ref x) "__setattr__" cd.mro=pure ()) (ht:takerIn K C name=some none) (hh:cd.hasDict=true)
 (h:∀h' tk,h'.get? x=some {ox with dict:=some s.heap.objs.size}→h'.Ns1 s.heap.objs.size (fun y=>if y=name then some v else none)→(∀b o,b≠x→s.heap.get? b=some o→h'.get? b=some o)→Q () {s with heap:=h',toks:=tk}):
 wpAny (model prog w) A (setAttr (.ref x) name v) Q E s:=by
 have hnc:notCls ox=true:=by unfold notCls;rw[hf]
 have I:PySem.W.InstAt s.heap x ox C none:=⟨hx,hcl,hnc,by rw[hd];trivial⟩
 refine set_plain X I hs (A3r (s:={s with toks:=s.toks+1}) X I hc hm0 ho hp ht fun b=>?_)
 refine(let GG:=_;(?_:GG))
 obtain⟨oc,odi,oda,osl⟩:=ox
 dsimp only at hcl hd hf
 subst hcl hd hf
 refine wpAny_bind (wpAny_pure (wpAny_bind (wpAny_bind (wpAny_loadPart hx (wpAny_bind (looks_clsIn X hc _ _ _ {s with toks:=s.toks+1} (fun J J e=>e) ?_))))))
 rw[hh]
 have hx₁:(s.heap.push {cls:=.type "dict",data:=.dict #[]}).get? x=some {cls:=.ref C,data:=.fields vs,slots:=osl}:=Heap.get?_push_of_some _ hx
 have hxs:x≠s.heap.objs.size:=Nat.ne_of_lt (Heap.lt_size hx)
 show wpAny _ _ (alloc {cls:=.type "dict",data:=.dict #[]}>>=fun d=>update x (fun o=>{cls:=o.cls,dict:=some d,data:=o.data,slots:=o.slots})>>=fun J=>dictMade (.ref C) x d) _ _ _
 refine wpAny_bind (wpAny_alloc (wpAny_bind (wpAny_update hx₁ ?_)))
 refine wpAny_pure (a:=some s.heap.objs.size) ?_
 have hgd:((s.heap.push {cls:=.type "dict",data:=.dict #[]}).update x fun o=>{cls:=o.cls,dict:=some s.heap.objs.size,data:=o.data,slots:=o.slots}).get? s.heap.objs.size
  =some {cls:=.type "dict",data:=.dict #[]}:=
  (Heap.get?_update_ne _ _ _ _ hxs.symm).trans (Heap.get?_push_at rfl rfl)
 have hnd:((s.heap.push {cls:=.type "dict",data:=.dict #[]}).update x fun o=>{cls:=o.cls,dict:=some s.heap.objs.size,data:=o.data,slots:=o.slots}).Ns s.heap.objs.size (fun J=>none):=
  ⟨_, #[],_,hgd,rfl,fun e he=>absurd he (by simp),fun J=>rfl⟩
 refine wpAny_bind (wpAny_pure (wpAny_bind (wpAny_nsSet1 (s:={s with heap:=(s.heap.push {cls:=.type "dict",data:=.dict #[]}).update x fun o=>{cls:=o.cls,dict:=some s.heap.objs.size,data:=o.data,slots:=o.slots},toks:=s.toks+1}) (Heap.Ns1.of_empty hnd) fun h' hn' hsb=>?_)))
 refine(let GG:=_;(?_:GG))
 obtain⟨oD,esD,epD,hoD,hdD,hcD⟩:=hn'.count (Within.cons name v Within.nil)
 refine wpAny_bind (wpAny_lookBehind hoD (by rw[hdD];exact pastItsLine_dict (Nat.le_trans hcD (by rw[List.length_cons,List.length_nil,sizeLine_eq];omega))) ?_)
 refine wpAny_pure ?_
 refine h h' _ ?_ hn' fun b ob hbx hb=>?_
 ·exact(hsb.2 x hxs).trans (Heap.get?_update_self _ hx₁ rfl)
 ·exact(hsb.2 b (Nat.ne_of_lt (Heap.lt_size hb))).trans ((Heap.get?_update_ne _ _ _ _ hbx).trans (Heap.get?_push_of_some _ hb))
end
end Mine.Internal
namespace Mine.Internal
open PySem PySem.W PyProof.Rows PySem.SeqAt PySem.MeetsSeq PySem.Calls
variable {W:Wd} {P P' P0 P1 P2:GM} {fr:List Env} {h h' h0 h1 h2:Heap} {η η':List Addr} {σ σ':Sto} {env:Env}
noncomputable def A6f:FC:=⟨2,2,[],.cons .dead .nil⟩
set_option genCtorIdx false in
structure RefC(W:Wd)(G:Gl)(fI:Addr)(fo:Obj)(name qual:Str)(params:Arguments)(scope:Scope)(dV kV doc pm:Value)(an:Option Addr)(cdv ct:Value)(ds:List Value)(slf msg:Str)(p1 p2 p3 p4:Pos)
 (nm q:Str) (N:Addr) (bs bm bmB:List Value) (hdct:Bool) (sn:List Str) (sub:List Value) (ab:Bool) (col:Option Bool) (dd:Option Addr) (k0 k1 k2 k3 k5:Option Value) (B newId initId:String) (mN:Str→Option Value) (cd:ClassData):Prop where
 F:ExcBaseFacts B newId initId bmB
 T:OwnTail W.base bmB bm
 hC:W.base.get? (W.cls 2)=some (excClassObj nm q (W.cls 2) N bs bm hdct sn sub ab col dd k0 k1 k2 k3 k5 newId)
 hn:W.base.Ns N mN
 hi:mN "__init__"=some (.ref fI)
 fR:FnRec W G fI A6f fo name qual params [.Assign [.Attribute (.Name slf p1) (sv cMsg) p2] (.Name msg p3) p4] scope dV kV doc pm an cdv ct [slf,msg] ds
 fc:fo.cls=.type "function"
 ne:slf≠msg
 o1:Bu slf=true
 o2:Bu msg=true
 k1:findIn W.K (.ref (W.cls 2)) "__setattr__"=some (some (.builtin "object.__setattr__"))
 k2:clsIn W.K (W.cls 2)=some cd
 k3:cd.mro.isEmpty=false
 k4:cd.mro.contains (.type "object")=true
 k5:∀x,refuseLoop (.ref x) "__setattr__" cd.mro=pure ()
 k6:takerIn W.K (W.cls 2) (sv cMsg)=some none
 k7:cd.hasDict=true
inductive RefOK(W:Wd)(G:Gl):Prop
 |mk:∀fI fo name qual params scope dV kV doc pm an cdv ct ds slf msg p1 p2 p3 p4 nm q N bs bm bmB hdct sn sub ab col dd k0 k1 k2 k3 k5 B newId initId mN cd,
  RefC W G fI fo name qual params scope dV kV doc pm an cdv ct ds slf msg p1 p2 p3 p4 nm q N bs bm bmB hdct sn sub ab col dd k0 k1 k2 k3 k5 B newId initId mN cd→RefOK W G
section
variable {G:Gl} {n:Nat} {A:Around} {E:Value→Shared→Prop} {s:Shared}
inductive Madx(W:Wd)(P:GM)(C:Addr)(h0:Heap)(m:PV)(h:Heap)(e:Addr):Prop
 |mk:∀t d md v sl,h.get? e=some {cls:=.ref C,dict:=some d,data:=.fields #[.ref t,.none,.none,.none,.bool false,.none],slots:=sl}→h0.get? e=none→h0.get? d=none→d≠e→h.Ns1 d md→md (sv cMsg)=some v→Rv W P m v→Madx W P C h0 m h e
theorem A0e(hG:GlOK W G)(hnolim:∀{P:GM} {fr:List Env} {h:Heap},Inv W P fr h→h.NoLimit)(hR:RefOK W G)(hA:AOK A fr (n+1))(I:Inv W P fr s.heap)(S:SR W P η σ){m:PV}{v:Value}(rv:Rv W P m v){Q:Value→Shared→Prop}
 (hQ:∀e h' tk,Stp fr P s.heap P h'→Inv W P fr h'→Madx W P (W.cls 2) s.heap m h' e→Q (.ref e) {s with heap:=h',toks:=tk}):wpAny (md W) A (call (.ref (W.cls 2)) [v]) Q E s:=by
 obtain⟨fI,fo,name,qual,params,scope,dV,kV,doc,pm,an,cdv,ct,ds,slf,msg,p1,p2,p3,p4,nm,q,N,bs,bm,bmB,hdct,sn,sub,ab,col,dd,k0,k1,k2,k3,k5,B,newId,initId,mN,cd,R⟩:=hR
 have kb:∀b o,W.base.get? b=some o→s.heap.get? b=some o:=fun b o e=>(I.base b o e).1
 have hS:=hG.ok.sys
 obtain⟨hp,g,d,t,os⟩:=s
 refine Um R.F (R.T.keeps kb) (kb _ _ R.hC) (R.hn.keeps kb) R.hi (kb _ _ R.fR.at') R.fc (fun h1 e hm=>?_) (hrest:=by size_fits)
 refine(let GG:=_;(?_:GG))
 obtain⟨t0,he1,ht0,_⟩:=hm.there
 have he0:=hm.new
 dsimp only at kb I
 have I1:Inv W P fr h1:=Bg hS I hm.keeps
 have st1:Stp fr P hp P h1:=Ba hm.keeps
 obtain⟨u1,u2,u3,u4⟩:=Jl (A:=A) (W.cls 2) [v]
 have hAw:AOKw (A.under (.builtin "type.__call__" ⟨.ref (W.cls 2)::[v],[]⟩)) fr (n+1):=
  hA.un u1 u2 u3 u4
 refine wpAny_call (codeAny_mono (Se (R:=fun r s'=>match r with|.ok (.ret u)=>(u=.none∧Q (.ref e) s')|.ok _=>False|.error x=>E x s') (vs:=[.v (.raw (.ref e)),.v m]) hS hnolim R.fR hAw (s:=⟨h1,g,d,t,os⟩) I1 S (.cons (.v (.raw _)) (.cons (.v rv) .nil)) (row:=[some (.v (.raw (.ref e))),some (.v m)]) rfl ?_) fun rr s' z=>?_)
 rotate_left
 ·rcases rr with x|(v|_|_|_)<;>first|exact z|exact z.elim
 ·intro env h2 tk2 hIn hl C2 kp ownF hfrm
  have L:∀x i,[slf,msg][i]?=some x→(Df [slf,msg]).lookup x=some (0,i):=fun x i e=>Nc R.fR.nd e
  refine wpAny_execs_cons ?_
  have hK:W.K.In h2:=Inv.K hG.ok C2.I
  have he2:=kp _ _ he1
  refine plainObj_wpAny_Assign_Attribute ?_ rfl
  have o1:=R.o1
  have o2:=R.o2
  have w1:=o1
  have w2:=o2
  simp only[Bu,Bool.and_eq_true,Bool.not_eq_true']at w1 w2
  refine wpAny_Name (Fp (s:={(⟨h1,g,d,t,os⟩:Shared)with heap:=h2,toks:=tk2}) C2.R (L msg 1 rfl) o2 rfl fun v' rv'=>?_) w2.1
  refine wpAny_Name (Fp (s:={(⟨h1,g,d,t,os⟩:Shared)with heap:=h2,toks:=tk2}) C2.R (L slf 0 rfl) o1 rfl fun u ru=>?_) w1.1
  refine(let GG:=_;(?_:GG))
  cases ru with|v ru=>
  cases ru
  cases rv' with|v rv'=>
  refine A3c (s:={(⟨h1,g,d,t,os⟩:Shared)with heap:=h2,toks:=tk2}) hK he2 rfl rfl rfl R.k1 R.k2 R.k3 R.k4 (R.k5 e) R.k6 R.k7 fun h3 tk3 g1 g2 g3=>?_
  dsimp only at g1 g2 g3
  refine wpAny_execs_nil ⟨rfl,?_⟩
  have st2:Stp fr P hp P h2:=st1.trans (Ba kp)
  have I2:Inv W P fr h2:=Bg hS I1 kp
  have eb:Heap.ExtBut e h2 h3:=fun b o hb e=>g3 b o hb e
  have nfr:∀env∈fr,env.frame=some e→∃m,h3.Ns e m:=fun env he hf=>absurd hf (Cb I he0 env he)
  have hd0:hp.get? h2.objs.size=none:=by
   cases z:hp.get? h2.objs.size with
   |none=>rfl
   |some o=>have:=kp _ _ (hm.keeps _ _ z);rw[Ak]at this;cases this
  exact hQ e h3 tk3 (Bi st2 he0 eb) (Bj I2 (Ad I he0) (Bc I he0) nfr eb)
   ⟨t0,h2.objs.size,_,v',_,g1,he0,hd0,(by rintro z;have:=he2;rw[←z,Ak]at this;cases this),g2,by simp,rv'⟩
theorem Tm{C:Addr}{nm q:Str}{N:Addr}{bs bm:List Value}{hdct:Bool}{sn:List Str}{sub:List Value}{ab:Bool}{col:Option Bool}{dd:Option Addr}{k0 k1 k2 k3 k5:Option Value}{newId:String}{M:Model}{x:Sem Value}{Q:Flow→Shared→Prop}
 (hbase:bm.contains (.type "BaseException")=true) (hh:A.handled=none)
 (h:wpAny M A x (fun v s₁=>∃e t d sl,v=.ref e∧s₁.heap.get? C=some (excClassObj nm q C N bs bm hdct sn sub ab col dd k0 k1 k2 k3 k5 newId)∧
  s₁.heap.get? e=some {cls:=.ref C,dict:=some d,data:=.fields #[.ref t,.none,.none,.none,.bool false,.none],slots:=sl}∧E (.ref e) s₁) E s):
 wpAny M A (raiseStmt env (some x) none) Q E s:=by
 have hcB:(Value.ref C::bm).contains (.type "BaseException")=true:=by rw[List.contains_cons,hbase,Bool.or_true]
 unfold raiseStmt
 refine wpAny_bind (wpAny_mono h (fun v s₁ h₁=>?_) fun J J x=>x)
 refine(let GG:=_;(?_:GG))
 obtain⟨e,t,d,sl,rfl,hC,he,hE⟩:=h₁
 obtain⟨hp,g,dr,tk,os⟩:=s₁
 repeat(first|with_reducible refine wpAny_loadPart_at he ?_|with_reducible refine wpAny_loadPart_at hC ?_|(with_reducible refine wpAny_isSubtype_exc hC ?_;rw[hcB])|wp_step)
 exact wpAny_raiseNew_none hh hE
end
section
variable {G:Gl} {n:Nat} {Φ:Phi}
set_option tactic.hygienic true in
theorem Yy(hG:GlOK W G)(hnolim:∀{P:GM} {fr:List Env} {h:Heap},Inv W P fr h→h.NoLimit)(hR:RefOK W G){e:CE}(h1:EvOk W G (n+1) Φ e):StOk W G (n+1) Φ (.raiseS e):=by
 intro cx len st r σ A fr env P η s hk hI hl C hne
 refine A3w hk fun a b p hk=>onNo hk fun hk=>onSo hk fun c hk=>Hu hk fun f xs cp hk=>E7 hk fun exx=>Ae fun hk0 hk1=>?_
 ·obtain⟨x,np,rfl,hl',hn⟩:=G8 hk0
  obtain⟨fI,fo,name,qual,params,scope,dV,kV,doc,pm,an,cdv,ct,ds,slf,msg,p1,p2,p3,p4,nm,q,N,bs,bm,bmB,hdct,sn,sub,ab,col,dd,k0,k1,k2,k3,k5,B,newId,initId,mN,cd,R⟩:=id hR
  rw[arm_exec_Raise]
  refine wpAny_bind (wpAny_standAt ?_)
  refine Tm (C:=W.cls 2) (nm:=nm) (q:=q) (N:=N) (bs:=bs) (bm:=bm) (hdct:=hdct) (sn:=sn) (sub:=sub) (ab:=ab) (col:=col) (dd:=dd) (k0:=k0) (k1:=k1) (k2:=k2) (k3:=k3) (k5:=k5) (newId:=newId) (R.T.hasType R.F.hasBase) hI.A.handled ?_
  refine wpAny_bind (wpAny_mono (Call_ (G9 hG C hl' hn ?_)) (fun v s3 h3=>wpAny_bind (wpAny_standAt (wpAny_pure h3))) fun J J x=>x)
  rw[←hG.clsE]
  have hsp:starEach [exx] env=[exx].map fun x=>(false,eval x env):=B7 (cx:=cx) (G:=G) (es:=.cons e .nil) ((Bool.and_true _).trans hk1)
  refine Ci (P0:=fun h=>W.K.In h) hsp (keeps_K (hG.keepC 2 (by omega))) ?_
  refine spliced_cons ?_
  refine evS (len:=len) (X:=fun v Q E s=>wpAny (md W) A (spliced []) (fun us s2=>W.K.In s2.heap∧wpAny (md W) A (call (.ref (W.cls 2)) ([]++(v::us))) (fun v s₁=>∃e t d sl,v=.ref e∧s₁.heap.get? (W.cls 2)=some (excClassObj nm q (W.cls 2) N bs bm hdct sn sub ab col dd k0 k1 k2 k3 k5 newId)∧
   s₁.heap.get? e=some {cls:=.ref (W.cls 2),dict:=some d,data:=.fields #[.ref t,.none,.none,.none,.bool false,.none],slots:=sl}∧E (.ref e) s₁) E s2) E s) (fun J J J J J J x a b=>wpAny_mono x (fun J J y=>⟨y.1,wpAny_mono y.2 (fun J J ⟨e,t,d,sl,z1,z2,z3,z4⟩=>⟨e,t,d,sl,z1,z2,z3,b _ _ z4⟩) b⟩) b) C hne (fun h=>h1 cx exx false [r] σ A fr env P η s hk1 hI.A C h) ?_
  intro b v σ1 hp tk1 P1 η1 _ hf _ _ C1 rel
  refine spliced_nil ⟨Inv.K hG.ok C1.I,?_⟩
  cases rel with
  |h=>exact absurd rfl hf
  |v rv=>
   rename_i y
   cases rv<;>try(exact absurd rfl hf)
   rename_i ss tt
   refine A0e (s:={s with heap:=hp,toks:=tk1}) (m:=.str ss) hG hnolim hR hI.A C1.I C1.S (.str ss tt) fun e h' tk st I' M=>?_
   obtain⟨t,d,md',v',sl,m1,m2,m3,m4,m5,m6,m7⟩:=M
   refine⟨e,t,d,sl,rfl,(C1.I.base _ _ R.hC).1|>fun z=>(I'.base _ _ R.hC).1,m1,.str ss,rfl,h',tk,P1,e,rfl,rfl,st.rest,I',?_⟩
   exact⟨_,_,d,md',v',Dc m2,Ad C1.I m2,m1,rfl,rfl,rfl,Dc m3,Ad C1.I m3,m4,m5,m6,m7,.inl rfl⟩
end
end Mine.Internal
namespace Mine.Internal
open PySem PySem.W PyProof.Rows PySem.SeqAt PySem.MeetsSeq PySem.Calls
section
variable {prog:Program} {w:World} {A:Around} {E:Value→Shared→Prop} {s:Shared} {K:Frag} {x C:Addr} {ox:Obj} {od:Option Obj} {name:Str} {expr:Bool} {Q:Value→Shared→Prop}
theorem A4m{v:Value}(X:K.In s.heap)(I:PySem.W.InstAt s.heap x ox C od)(hga:findIn K (.ref C) "__getattribute__"=some (some (.builtin "BaseException.__getattribute__")))(hgn:findIn K (.ref C) "__getattr__"=some none)
 (hB:mroIn K C (.type "BaseException")=some true) (hf:findObj K C od name=some (.value v)) (hh:handedIn v=true) (h:Q v {s with toks:=s.toks+1}):wpAny (model prog w) A (getAttr (.ref x) name expr) Q E s:=by
 have hk:builtinKind "BaseException.__getattribute__"=some .slot:=by decide+kernel
 have hsplit:splitId "BaseException.__getattribute__"=some ("BaseException","__getattribute__"):=by decide+kernel
 obtain⟨hp,g,d,t,os⟩:=s
 have L0:=I.type (M:=model prog w)
 have L1:=looks_findIn (M:=model prog w) X hga
 have L2:=looks_findIn (M:=model prog w) X hgn
 have L3:=looks_find (M:=model prog w) X I hf
 have L4:Looks (model prog w) hp (isInstance (.ref x) (.type "BaseException")) true:=L0.andThen (looks_mroIn X hB)
 have hx2:(Value.builtin "BaseException.__getattribute__"==Value.builtin "object.__getattribute__")=false:=by decide+kernel
 unfold getAttr getAttrBy
 refine wpAny_bind (wpAny_mkText (wpAny_holding (wpAny_bind (L0.at (wpAny_bind (L1.at ?_))))))
 dsimp only
 rw[hx2,Bool.and_false,if_neg (by simp)]
 unfold getAttrByItsOwn hookBefore
 refine wpAny_bind ?_
 show wpAny _ _ (typeLookup (.ref C) _) _ _ _
 refine L2.at ?_
 refine wpAny_bind (wpAny_attempt (wpAny_holding ?_))
 unfold callGetattribute
 rw[show(expr&&onTheHeap (Value.builtin "BaseException.__getattribute__"))=false from by induction expr using Bool.casesOn<;>rfl,if_neg (by simp)]
 unfold boundAndCalled
 rw[PySem.F.attr_Exception.ga.bind]
 refine wpAny_bind (wpAny_pure ?_)
 show wpAny _ _ (call (.builtin "BaseException.__getattribute__") [.ref x,.str name t]) _ _ _
 refine wpAny_call ?_
 refine codeAny_call_builtin PySem.F.attr_Exception.ga.plain PySem.F.entry_bexc_ga ?_
 refine@check_slot (model prog w) _ _ _ "BaseException.__getattribute__" "BaseException" "__getattribute__" (.ref x) [.str name t] [] _ hk hsplit ?_ (PySem.F.args_bexc_ga (.ref x) (.str name t)) ?_
 ·exact L4
 unfold Builtin.«object.__getattribute__»
 refine wpAny_bind (wpAny_pure (wpAny_bind (wpAny_pure (wpAny_bind (L0.at (wpAny_bind (L3.at ?_)))))))
 refine wpAny_pure ?_
 show wpAny _ _ (handedOut v) _ _ _
 rw[handedOut_of hh];exact wpAny_pure h
end
end Mine.Internal
namespace Mine.Internal
open PySem PySem.W PyProof.Rows PySem.SeqAt PySem.MeetsSeq PySem.Calls
variable {W:Wd} {P P' P0 P1 P2:GM} {fr:List Env} {h h' h0 h1 h2:Heap} {η η':List Addr} {σ σ':Sto} {env:Env}
structure TryC(W:Wd):Prop where
 g1:findIn W.K (.ref (W.cls 2)) "__getattribute__"=some (some (.builtin "BaseException.__getattribute__"))
 g2:findIn W.K (.ref (W.cls 2)) "__getattr__"=some none
 g3:mroIn W.K (W.cls 2) (.type "BaseException")=some true
 g4:findIn W.K (.ref (W.cls 2)) (sv cMsg)=some none
 g5:hasDictIn W.K (W.cls 2)=true
section
variable {G:Gl} {n:Nat} {Φ:Phi}
theorem A74(hG:GlOK W G)(hR:RefOK W G)(hT:TryC W){e:CE}(h1:EvOk W G n Φ e):StOk W G n Φ (.tryR e):=by
 intro cx len st r σ A fr env P η s hk hI hl C hne
 refine A7t hk fun x rp tn y z zp nm zp2 rp2 hp0 tp=>Wi fun hk0 hk1 q1 hny q2 hky=>Js q2 ?_
 ·cases beqE q1
  have hky:=beqE hky
  refine(let GG:=_;(?_:GG))
  obtain⟨rn,rnp,rfl,hl',hn⟩:=G8 hk0
  obtain⟨fI,fo,name,qual,params,scope,dV,kV,doc,pm,an,cdv,ct,ds,slf,msg,p1,p2,p3,p4,nm,q,N,bs,bm,bmB,hdct,sn,sub,ab,col,dd,k0,k1,k2,k3,k5,B,newId,initId,mN,cd,R⟩:=id hR
  obtain⟨L,hL⟩:=hI.L
  have hfr:=hI.A.frames
  induction σ using List.casesOn with
  |cons=>exact absurd rfl hne
  |nil=>
  have hev:ev G.pol Φ [r] false e []≠.stk:=fun q=>hne (congrArg (tryK [r]) q)
  refine wpAny_Try_except ?_
  refine wpAny_execs_cons (wpAny_Return_some ?_)
  refine wpAny_mono (h1 cx x false [r] [] A fr env P η s hk1 hI.A C hev) (fun v s1 q=>?_) (fun e s1 q=>?_)
  ·refine(let GG:=_;(?_:GG))
   obtain⟨b,σ1,e1,hp,tk,P1,η1,rfl,st,p,I1,S1,rel⟩:=q
   exact⟨.ret b,r,σ1,congrArg (tryK [r]) e1,hl,hp,tk,P1,η1,rfl,st.rest,p,C.step st p I1 S1,rel⟩
  ·obtain⟨m,e1,hp,tk,P1,a,rfl,rfl,st,I1,F⟩:=q
   obtain⟨m,rfl⟩:∃t,m=.str t:=by
    have hne:tryE [r] m≠.stk:=fun q=>hne ((congrArg (tryK [r]) e1).trans q)
    induction m using PV.casesOn<;>first|exact⟨_,rfl⟩|exact absurd rfl hne
   obtain⟨outer,rfl⟩:=hI.fr
   refine Pc (s:={s with heap:=hp,toks:=tk}) hfr hL C.I.baseIn st I1 F fun h2 st2 I2 F2=>?_
   refine Gd (s:={s with heap:=h2,toks:=tk}) C.I.baseIn st2 I2 F2 fun h3 st3 I3 F3=>?_
   have S3:SR W P1 η []:=⟨C.S.len,fun n a po J e=>by simp at e⟩
   have C3:Cur W (env::outer) cx env [r] P1 η [] h3:=⟨I3,S3,C.R.step st3 (.refl _)⟩
   refine wpAny_handleBy_cons (codeAny_handlers_test (G9 (s:={s with heap:=h3,toks:=tk}) hG C3 hl' hn ?_)) (by intro q;cases q)
   rw[←hG.clsE]
   have F3':=F3
   obtain⟨oe,vs,d,md',v',T,oT,ts,f,x1,x2,x3,x4,x5,x6,x7⟩:=F3
   refine wpAny_excMatches_sub_self (I3.base _ _ R.hC).1 x3 x4 (R.T.hasType R.F.hasBase) (codeAny_handlers_suite_as ?_)
   refine Gd (s:={s with heap:=h3,toks:=tk}) C.I.baseIn st3 I3 F3' fun h4 st4 I4 F4=>?_
   refine(let GG:=_;(?_:GG))
   have R4:EnvR W cx env P1 η h4 [r]:=C.R.step st4 (.refl _)
   have hkx:env.kindOf y=some .local:=by show env.scope.names.lookup y=_;rw[R4.names];exact hky
   have hpp:(env.scope.kind==.class||(env.scope.kind==.module&&env.locals !=env.globals))=false:=by rw[R4.kind];rfl
   obtain⟨m4,hm4⟩:=R4.ns
   refine wpAny_storeName_local hkx hm4 (fun h5 hn5 hs5=>?_) hpp
   refine(let GG:=_;(?_:GG))
   obtain⟨oe,vs,d,md',v',T,oT,ts,f,x1,x2,x3,x4,x5,x6,x7,x8,x9,x10,x11,x12,_⟩:=F4
   have hLa:∀b,s.heap.get? b=none→env.locals≠b:=by rintro b hb rfl;obtain⟨_,o,_,_,ho,_⟩:=C.R.ns;rw[hb]at ho;cases ho
   have e5:=hs5.extBut a oe (hLa a x1).symm x3
   obtain⟨od,es,ep,hod,hdd,hkk,huu,hff⟩:=x10
   have d5:=hs5.extBut d od (hLa d x7).symm hod
   have I5:Inv W P1 (env::outer) h5:=Bj I4 R4.locP R4.locB (fun J J J=>⟨_,hn5⟩) hs5.extBut
   have hw:=hny
   simp only[Bu,Bool.and_eq_true,Bool.not_eq_true']at hw
   refine wpAny_execs_cons (wpAny_Return_some (Oe rfl (wpAny_Name (wpAny_loadName_local R4.kind hkx hn5 (by simp;rfl) ?_) hw.1)))
   refine(let GG:=_;(?_:GG))
   have hnc:notCls oe=true:=by unfold notCls;rw[x6]
   refine A4m (od:=some od) (Inv.K hG.ok I5) ⟨e5,x4,hnc,by rw[x5];exact d5⟩ hT.g1 hT.g2 hT.g3 (findObj_own hT.g5 hT.g4 rfl (by rw[J5 hdd hkk hff,x11])) (Og x12 (by simp)) ?_
   refine wpAny_nameGoes_keeps hkx hn5 hpp fun h6 v6 hn6 hs6=>?_
   have I6:Inv W P1 (env::outer) h6:=Bj I5 R4.locP R4.locB (fun J J J=>⟨_,hn6⟩) hs6.extBut
   have hown:env.locals∈own env:=List.mem_cons_self
   have st6:=Bi (Bi st4.rest (Ho hown) hs5.extBut) (Ho hown) hs6.extBut
   have R6:EnvR W cx env P1 η h6 [r.map fun J=>none]:=by
    refine⟨R4.kind,R4.glob,R4.blt,R4.names,⟨_,hn6⟩,R4.locP,R4.locB,R4.inj,fun y d j e=>?_⟩
    have hz:getV [r.map fun J=>(none:Option Val)] d j=none:=by
     unfold getV
     induction d using Nat.casesOn with
     |zero=>simp;cases r[j]?<;>rfl
     |succ d=>simp
    rw[hz]
    rcases R4.vars y d j e with⟨hk,_⟩|⟨hk,c,u,hc,hic,hp,hb,_⟩
    ·exact .inl ⟨hk,_,hn6,trivial⟩
    ·refine .inr ⟨hk,c,u,hc,(hic.sameBut hs5 ?_).sameBut hs6 ?_,hp,hb,trivial⟩<;>(rintro rfl;exact Km hm4 hic)
   exact⟨.ret (.v (.str m)),r.map fun J=>none,[],congrArg (tryK [r]) e1,by rw[List.length_map];exact hl,h6,_,P1,η,rfl,st6,.refl _,⟨I6,S3,R6⟩,show RV P1 η (.v (.str m)) v' from .v x12⟩
end
end Mine.Internal
namespace Mine.Internal
open PySem PySem.W PyProof.Rows PySem.SeqAt PySem.MeetsSeq PySem.Calls
variable {W:Wd}
section
variable {G:Gl} {n:Nat} {Φ:Phi}
variable (hG:GlOK W G) (hΦ:K3 W G (n+1) Φ) (hS:Mo W) (hR:RefOK W G) (hT:TryC W)
include hG hΦ hS hR hT
mutual
theorem Abb:∀(cs:CS),StOk W G (n+1) Φ cs
 |.expr e=>A39 (B0 hG hΦ hS e).1
 |.asg _ _ _=>A77 hG (fun ce=>(B0 hG hΦ hS ce).1) (fun ces=>(Cf hG hΦ hS ces).2.2.2.2.2.1)
 |.unp _ e=>A73 hG (B0 hG hΦ hS e).1
 |.setA o _ _ e=>A34 hG (B0 hG hΦ hS e).1 (B0 hG hΦ hS o).1
 |.setI o i e=>A33 hG (B0 hG hΦ hS e).1 (B0 hG hΦ hS o).1 (B0 hG hΦ hS i).1
 |.aug _ _ e=>A76 (B0 hG hΦ hS e).1
 |.ifS c t f=>A9d (B0 hG hΦ hS c).2 (Lv t) (Lv f)
 |.whl c b=>A72 (B0 hG hΦ hS c).2 (Lv b)
 |.forS _ it b=>A38 hG (B0 hG hΦ hS it).1 (Lv b)
 |.forT _ it b=>A37 hG (B0 hG hΦ hS it).1 (Lv b)
 |.ret _ e=>A75 (B0 hG hΦ hS e).1
 |.retN=>A35
 |.raiseS e=>Yy hG (fun I=>Inv.nolimit hG.ok I) hR (B0 hG hΦ hS e).1
 |.tryR e=>A74 hG hR hT (B0 hG hΦ hS e).1
 |.pass=>A36
 |.dead=>A3a
theorem Lv:∀(cs:CSs),Fy W G (n+1) Φ cs
 |.nil=>A32
 |.cons c r=>Yx (Abb c) (Lv r)
end
end
noncomputable def Aaz(W:Wd)(G:Gl)(codes:Nat→Option FC):Prop:=∀f c,codes f=some c→FnOK W G (W.fns f) c
theorem Zp{pol:Pol}{codes:Nat→Option FC}{n f:Nat}{vs:List Val}{σ:Sto}:phi pol codes (n+1) f vs σ=(match codes f with
 |none=>.stk
 |some c=>match Ey c vs with
  |none=>.stk
  |some row=>(exs pol (phi pol codes n) c.body [row] σ).bind fun r=>match r.1 with
   |.ret x=>.ok (norm r.2.2 x,r.2.2)
   |.next=>.ok (.v .none,r.2.2)):=rfl
theorem A7q{G:Gl}{codes:Nat→Option FC}(hG:GlOK W G)(hS:Mo W)(hR:RefOK W G)(hT:TryC W)(hF:Aaz W G codes)(n):K3 W G (n+1) (phi G.pol codes n):=by
 induction n with
 |zero=>
  exact fun f vs us σ P η fr A s J J J J J hne=>absurd rfl hne
 |succ n ih=>
  intro f vs us σ P η fr A s hf hA I S r hne
  have ih:=ih
  rw[Zp]at hne⊢
  cases hc:codes f with
  |none=>rw[hc]at hne;exact absurd rfl hne
  |some c=>
   rw[hc]at hne
   dsimp only at hne⊢
   cases hb:Ey c vs with
   |none=>rw[hb]at hne;exact absurd rfl hne
   |some row=>
    rw[hb]at hne
    dsimp only at hne⊢
    exact Zq hG hG.ok.sys (fun I=>Inv.nolimit hG.ok I) (hF f c hc) (Lv hG ih hS hR hT c.body) hA I S r hb rfl hne
end Mine.Internal
namespace Mine.Internal
open PySem
noncomputable def Uv:FC:=⟨1,1,[],(.cons (.ifS (.cmp .is (.var 0 0) (.cst .none)) (.cons (.ret false (.cst .none)) .nil) .nil) (.cons (.ret false (.tupE (.cons (.var 0 0) (.cons (.cst (.int (1))) .nil)))) .nil))⟩
noncomputable def Mh:FC:=⟨1,1,[],(.cons (.ifS (.cmp .is (.var 0 0) (.cst .none)) (.cons (.ret false (.cst (.str [78,65]))) .nil) .nil) (.cons (.ifS (.cmp .gt (.sub (.var 0 0) (.cst (.int (1)))) (.cst (.int (0)))) (.cons (.ret false (.cst .none)) .nil) .nil) (.cons (.ifS (.cmp .eq (.sub (.var 0 0) (.cst (.int (0)))) (.cst (.int (0)))) (.cons (.ret false (.cst (.str [78,97,78]))) .nil) .nil) (.cons (.ret false (.ite (.cmp .gt (.sub (.var 0 0) (.cst (.int (0)))) (.cst (.int (0)))) (.cst (.str [73,110,102])) (.cst (.str [45,73,110,102])))) .nil))))⟩
noncomputable def Py:FC:=⟨1,4,[],(.cons (.asg 1 false (.callB .abs (.cons (.var 0 0) .nil))) (.cons (.asg 2 true (.lstE .nil)) (.cons (.whl (.cmp .ge (.var 0 1) (.bin .pow (.cst (.int (10))) (.cst (.int (18))))) (.cons .dead (.cons .dead .nil))) (.cons (.expr (.meth .append (.var 0 2) (.cons (.callB .str (.cons (.var 0 1) .nil)) .nil))) (.cons (.ifS (.cmp .lt (.var 0 0) (.cst (.int (0)))) (.cons (.expr (.meth .append (.var 0 2) (.cons (.cst (.str [45])) .nil))) .nil) .nil) (.cons (.expr (.meth .reverse (.var 0 2) .nil)) (.cons (.ret false (.meth .join (.cst (.str [])) (.cons (.var 0 2) .nil))) .nil)))))))⟩
noncomputable def Qa:FC:=⟨1,4,[],(.cons (.asg 1 false (.callF 1 (.cons (.var 0 0) .nil))) (.cons (.ifS (.cmp .isNot (.var 0 1) (.cst .none)) (.cons (.ret false (.var 0 1)) .nil) .nil) (.cons (.ifS (.cmp .eq (.sub (.var 0 0) (.cst (.int (1)))) (.cst (.int (1)))) (.cons (.ret false (.callF 2 (.cons (.sub (.var 0 0) (.cst (.int (0)))) .nil))) .nil) .nil) (.cons .dead (.cons (.ifS (.boolE true (.cons (.cmp .isNot (.var 0 2) (.cst .none)) (.cons (.cmp .le (.var 0 2) (.cst (.int (15)))) .nil))) (.cons .dead (.cons (.ifS (.cmp .lt (.var 0 3) (.bin .pow (.cst (.int (10))) (.cst (.int (15))))) (.cons .dead .nil) .nil) .nil)) .nil) (.cons (.ret false (.bin .add (.bin .add (.callF 2 (.cons (.sub (.var 0 0) (.cst (.int (0)))) .nil)) (.cst (.str [47]))) (.callF 2 (.cons (.sub (.var 0 0) (.cst (.int (1)))) .nil)))) .nil))))))⟩
noncomputable def Bs:FC:=⟨4,4,[.none],(.cons (.setA (.var 0 0) [107,105,110,100] false (.var 0 1)) (.cons (.setA (.var 0 0) [105,116,101,109,115] false (.var 0 2)) (.cons (.setA (.var 0 0) [97,116,116,114,115] false (.var 0 3)) (.cons (.setA (.var 0 0) [115,104,97,114,101,100] false (.cst (.bool false))) (.cons (.setA (.var 0 0) [108,111,111,115,101] false (.cst (.bool false))) .nil)))))⟩
noncomputable def Yc:FC:=⟨1,1,[],(.cons (.ret false (.callC 0 (.cons (.cst (.str [105,110,116,101,103,101,114])) (.cons (.callB .list (.cons (.var 0 0) .nil)) .nil)))) .nil)⟩
noncomputable def Sw:FC:=⟨1,1,[],(.cons (.ret false (.callC 0 (.cons (.cst (.str [99,104,97,114,97,99,116,101,114])) (.cons (.callB .list (.cons (.var 0 0) .nil)) .nil)))) .nil)⟩
noncomputable def A26:FC:=⟨1,2,[],(.cons (.asg 1 false (.attr (.var 0 0) [107,105,110,100])) (.cons (.ifS (.cmp .eq (.var 0 1) (.cst (.str [78,85,76,76]))) (.cons (.ret false (.cst (.int (0)))) .nil) .nil) (.cons (.ifS (.boolE false (.cons (.callB .isinst (.cons (.var 0 0) (.cons (.glb (.ref cVec)) .nil))) (.cons (.cmp .eq (.var 0 1) (.cst (.str [108,97,110,103,117,97,103,101]))) .nil))) (.cons (.ret false (.callB .len (.cons (.attr (.var 0 0) [105,116,101,109,115]) .nil))) .nil) .nil) (.cons (.ifS (.cmp .eq (.var 0 1) (.cst (.str [101,110,118,105,114,111,110,109,101,110,116]))) (.cons (.ret false (.callB .len (.cons (.attr (.var 0 0) [102,114,97,109,101]) .nil))) .nil) .nil) (.cons (.ifS (.cmp .eq (.var 0 1) (.cst (.str [100,111,116,115]))) (.cons (.ret false (.callB .len (.cons (.attr (.var 0 0) [97,114,103,115]) .nil))) .nil) .nil) (.cons (.ret false (.cst (.int (1)))) .nil))))))⟩
noncomputable def Ss:FC:=⟨1,1,[],(.cons (.ret false (.callB .isinst (.cons (.var 0 0) (.cons (.glb (.ref cVec)) .nil)))) .nil)⟩
noncomputable def Sv:FC:=⟨1,1,[],(.cons (.ret false (.cmp .isIn (.attr (.var 0 0) [107,105,110,100]) (.tupE (.cons (.cst (.str [108,111,103,105,99,97,108])) (.cons (.cst (.str [105,110,116,101,103,101,114])) (.cons (.cst (.str [100,111,117,98,108,101])) (.cons (.cst (.str [99,104,97,114,97,99,116,101,114])) .nil))))))) .nil)⟩
noncomputable def A55:FC:=⟨1,1,[],(.cons (.ifS (.callB .isinst (.cons (.var 0 0) (.cons (.glb (.ref cVec)) .nil))) (.cons (.setA (.var 0 0) [115,104,97,114,101,100] false (.cst (.bool true))) .nil) .nil) (.cons (.ret false (.var 0 0)) .nil))⟩
noncomputable def Uu:FC:=⟨2,2,[],(.cons (.ifS (.cmp .is (.attr (.var 0 0) [97,116,116,114,115]) (.cst .none)) (.cons (.ret false (.cst .none)) .nil) .nil) (.cons (.ret false (.meth .get (.attr (.var 0 0) [97,116,116,114,115]) (.cons (.var 0 1) .nil))) .nil))⟩
noncomputable def Q4:FC:=⟨2,2,[],(.cons (.ifS (.boolE false (.cons (.cmp .is (.var 0 1) (.cst .none)) (.cons (.cmp .eq (.var 0 0) (.cst (.str [99,104,97,114,97,99,116,101,114]))) .nil))) (.cons (.ret false (.var 0 1)) .nil) .nil) (.cons (.ifS (.cmp .eq (.var 0 0) (.cst (.str [108,111,103,105,99,97,108]))) (.cons (.ret false (.ite (.cmp .eq (.var 0 1) (.cst (.int (1)))) (.cst (.str [84,82,85,69])) (.cst (.str [70,65,76,83,69])))) .nil) .nil) (.cons (.ifS (.cmp .eq (.var 0 0) (.cst (.str [105,110,116,101,103,101,114]))) (.cons (.ret false (.callB .str (.cons (.var 0 1) .nil))) .nil) .nil) (.cons .dead .nil))))⟩
noncomputable def N2:FC:=⟨1,3,[],(.cons (.asg 1 false (.callF 11 (.cons (.var 0 0) (.cons (.cst (.str [108,101,118,101,108,115])) .nil)))) (.cons (.ifS (.boolE true (.cons (.cmp .isNot (.var 0 1) (.cst .none)) (.cons (.cmp .eq (.attr (.var 0 0) [107,105,110,100]) (.cst (.str [105,110,116,101,103,101,114]))) (.cons (.cmp .isIn (.cst (.str [102,97,99,116,111,114])) (.callF 16 (.cons (.var 0 0) .nil))) .nil)))) (.cons (.asg 2 false (.ite (.callF 9 (.cons (.var 0 1) .nil)) (.callF 13 (.cons (.var 0 1) .nil)) (.lstE .nil))) (.cons .dead .nil)) .nil) (.cons (.ret false (.comp (.callF 12 (.cons (.attr (.var 1 0) [107,105,110,100]) (.cons (.var 0 0) .nil))) (.attr (.var 0 0) [105,116,101,109,115]) .nil 0)) .nil)))⟩
noncomputable def Us:FC:=⟨1,5,[],(.cons (.ifS (.cmp .eq (.attr (.var 0 0) [107,105,110,100]) (.cst (.str [108,97,110,103,117,97,103,101]))) (.cons (.forS 1 (.attr (.var 0 0) [116,97,103,115]) (.cons (.ifS (.cmp .isNot (.var 0 1) (.cst .none)) (.cons (.ret false (.comp (.ite (.cmp .is (.var 0 0) (.cst .none)) (.cst (.str [])) (.var 0 0)) (.attr (.var 0 0) [116,97,103,115]) .nil 0)) .nil) .nil) .nil)) (.cons (.ret false (.cst .none)) .nil)) .nil) (.cons (.ifS (.cmp .eq (.attr (.var 0 0) [107,105,110,100]) (.cst (.str [101,110,118,105,114,111,110,109,101,110,116]))) (.cons (.ret false (.callB .sorted (.cons (.attr (.var 0 0) [102,114,97,109,101]) .nil))) .nil) .nil) (.cons (.asg 2 false (.callF 15 (.cons (.var 0 0) .nil))) (.cons (.ifS (.boolE true (.cons (.cmp .isNot (.var 0 2) (.cst .none)) (.cons (.cmp .eq (.callB .len (.cons (.var 0 2) .nil)) (.cst (.int (1)))) .nil))) (.cons .dead (.cons (.ret false (.ite (.cmp .is (.var 0 3) (.cst .none)) (.cst .none) (.sub (.var 0 3) (.cst (.int (0)))))) .nil)) .nil) (.cons (.asg 4 false (.callF 11 (.cons (.var 0 0) (.cons (.cst (.str [110,97,109,101,115])) .nil)))) (.cons (.ifS (.cmp .is (.var 0 4) (.cst .none)) (.cons (.ret false (.cst .none)) .nil) .nil) (.cons (.ret false (.callB .list (.cons (.attr (.var 0 4) [105,116,101,109,115]) .nil))) .nil)))))))⟩
noncomputable def A27:FC:=⟨1,2,[],(.cons (.asg 1 false (.callF 11 (.cons (.var 0 0) (.cons (.cst (.str [100,105,109])) .nil)))) (.cons (.ifS (.cmp .is (.var 0 1) (.cst .none)) (.cons (.ret false (.cst .none)) .nil) .nil) (.cons (.ret false (.callB .list (.cons (.attr (.var 0 1) [105,116,101,109,115]) .nil))) .nil)))⟩
noncomputable def Qb:FC:=⟨1,2,[],(.cons (.asg 1 false (.callF 11 (.cons (.var 0 0) (.cons (.cst (.str [99,108,97,115,115])) .nil)))) (.cons (.ifS (.cmp .is (.var 0 1) (.cst .none)) (.cons (.ret false (.lstE .nil)) .nil) .nil) (.cons (.ret false (.callB .list (.cons (.attr (.var 0 1) [105,116,101,109,115]) .nil))) .nil)))⟩
noncomputable def Gk:FC:=⟨3,3,[],(.cons (.setA (.var 0 0) [102,111,114,109,97,108,115] false (.var 0 1)) (.cons (.setA (.var 0 0) [116,97,103,115] false (.var 0 2)) (.cons (.setA (.var 0 0) [117,115,101,100] true (.bin .mul (.lstE (.cons (.cst (.int (0))) .nil)) (.callB .len (.cons (.var 0 2) .nil)))) (.cons (.setA (.var 0 0) [112,108,97,99,101,115] true (.dctE [] .nil)) .nil))))⟩
noncomputable def Jg:FC:=⟨1,3,[],(.cons (.forS 1 (.attr (.var 0 0) [102,111,114,109,97,108,115]) (.cons (.ifS (.cmp .ne (.var 0 1) (.cst (.str [46,46,46]))) (.cons (.forS 2 (.callB .range (.cons (.callB .len (.cons (.attr (.var 0 0) [116,97,103,115]) .nil)) .nil)) (.cons (.ifS (.boolE true (.cons (.cmp .eq (.sub (.attr (.var 0 0) [116,97,103,115]) (.var 0 2)) (.var 0 1)) (.cons (.cmp .eq (.sub (.attr (.var 0 0) [117,115,101,100]) (.var 0 2)) (.cst (.int (0)))) .nil))) (.cons (.ifS (.cmp .isIn (.var 0 1) (.attr (.var 0 0) [112,108,97,99,101,115])) (.cons .dead .nil) .nil) (.cons (.setI (.attr (.var 0 0) [112,108,97,99,101,115]) (.var 0 1) (.var 0 2)) (.cons (.setI (.attr (.var 0 0) [117,115,101,100]) (.var 0 2) (.cst (.int (2)))) .nil))) .nil) .nil)) .nil) .nil) .nil)) .nil)⟩
noncomputable def H8:FC:=⟨1,2,[],(.cons (.forS 1 (.attr (.var 0 0) [102,111,114,109,97,108,115]) (.cons (.ifS (.cmp .eq (.var 0 1) (.cst (.str [46,46,46]))) (.cons .retN .nil) .nil) (.cons (.ifS (.cmp .notIn (.var 0 1) (.attr (.var 0 0) [112,108,97,99,101,115])) (.cons (.expr (.methF 20 [112,97,114,116,105,97,108,95,111,102] (.var 0 0) (.cons (.var 0 1) .nil))) .nil) .nil) .nil))) .nil)⟩
noncomputable def F7:FC:=⟨2,4,[],(.cons (.forS 2 (.callB .range (.cons (.callB .len (.cons (.attr (.var 0 0) [116,97,103,115]) .nil)) .nil)) (.cons (.asg 3 false (.sub (.attr (.var 0 0) [116,97,103,115]) (.var 0 2))) (.cons (.ifS (.boolE true (.cons (.cmp .ne (.sub (.attr (.var 0 0) [117,115,101,100]) (.var 0 2)) (.cst (.int (2)))) (.cons (.cmp .isNot (.var 0 3) (.cst .none)) (.cons (.cmp .ne (.var 0 3) (.cst (.str []))) (.cons .dead .nil))))) (.cons (.ifS (.cmp .eq (.sub (.attr (.var 0 0) [117,115,101,100]) (.var 0 2)) (.cst (.int (1)))) (.cons (.raiseS (.fstr (.cons (.cst (.str [97,114,103,117,109,101,110,116,32])) (.cons (.bin .add (.var 0 2) (.cst (.int (1)))) (.cons (.cst (.str [32,109,97,116,99,104,101,115,32,109,117,108,116,105,112,108,101,32,102,111,114,109,97,108,32,97,114,103,117,109,101,110,116,115])) .nil))))) .nil) .nil) (.cons (.ifS (.cmp .isIn (.var 0 1) (.attr (.var 0 0) [112,108,97,99,101,115])) (.cons .dead .nil) .nil) (.cons (.setI (.attr (.var 0 0) [112,108,97,99,101,115]) (.var 0 1) (.var 0 2)) (.cons (.setI (.attr (.var 0 0) [117,115,101,100]) (.var 0 2) (.cst (.int (1)))) .nil)))) .nil) .nil))) .nil)⟩
noncomputable def F6:FC:=⟨1,3,[],(.cons (.asg 1 false (.cst (.int (0)))) (.cons (.forS 2 (.attr (.var 0 0) [102,111,114,109,97,108,115]) (.cons (.ifS (.cmp .eq (.var 0 2) (.cst (.str [46,46,46]))) (.cons .retN .nil) .nil) (.cons (.ifS (.cmp .notIn (.var 0 2) (.attr (.var 0 0) [112,108,97,99,101,115])) (.cons (.whl (.boolE true (.cons (.cmp .lt (.var 0 1) (.callB .len (.cons (.attr (.var 0 0) [116,97,103,115]) .nil))) (.cons (.notE (.methF 22 [105,115,95,102,114,101,101] (.var 0 0) (.cons (.var 0 1) .nil))) .nil))) (.cons (.aug 1 .add (.cst (.int (1)))) .nil)) (.cons (.ifS (.cmp .lt (.var 0 1) (.callB .len (.cons (.attr (.var 0 0) [116,97,103,115]) .nil))) (.cons (.setI (.attr (.var 0 0) [112,108,97,99,101,115]) (.var 0 2) (.var 0 1)) (.cons (.setI (.attr (.var 0 0) [117,115,101,100]) (.var 0 1) (.cst (.int (2)))) .nil)) .nil) .nil)) .nil) .nil))) .nil))⟩
noncomputable def H9:FC:=⟨2,2,[],(.cons (.ret false (.boolE true (.cons (.cmp .eq (.sub (.attr (.var 0 0) [117,115,101,100]) (.var 0 1)) (.cst (.int (0)))) (.cons (.boolE false (.cons (.cmp .is (.sub (.attr (.var 0 0) [116,97,103,115]) (.var 0 1)) (.cst .none)) (.cons (.cmp .eq (.sub (.attr (.var 0 0) [116,97,103,115]) (.var 0 1)) (.cst (.str []))) .nil))) .nil)))) .nil)⟩
noncomputable def Kb:FC:=⟨1,1,[],(.cons (.ret false (.comp (.var 0 0) (.callB .range (.cons (.callB .len (.cons (.attr (.var 0 0) [116,97,103,115]) .nil)) .nil)) (.cons (.cmp .eq (.sub (.attr (.var 1 0) [117,115,101,100]) (.var 0 0)) (.cst (.int (0)))) .nil) 0)) .nil)⟩
noncomputable def N0:FC:=⟨3,5,[.none],(.cons (.asg 3 true (.callC 1 (.cons (.var 0 0) (.cons (.comp (.sub (.var 0 0) (.cst (.int (0)))) (.var 0 1) .nil 0) .nil)))) (.cons (.expr (.methF 18 [101,120,97,99,116] (.var 0 3) .nil)) (.cons (.expr (.methF 19 [112,97,114,116,105,97,108] (.var 0 3) .nil)) (.cons (.expr (.methF 21 [112,111,115,105,116,105,111,110,97,108] (.var 0 3) .nil)) (.cons (.asg 4 false (.methF 23 [114,101,115,116] (.var 0 3) .nil)) (.cons (.ifS (.boolE true (.cons (.cmp .gt (.callB .len (.cons (.var 0 4) .nil)) (.cst (.int (0)))) (.cons (.cmp .notIn (.cst (.str [46,46,46])) (.var 0 0)) .nil))) (.cons .dead .nil) .nil) (.cons (.ret false (.tupE (.cons (.attr (.var 0 3) [112,108,97,99,101,115]) (.cons (.var 0 4) .nil)))) .nil)))))))⟩
noncomputable def A25:FC:=⟨2,2,[],(.cons (.ifS (.cmp .is (.var 0 0) (.cst .none)) (.cons (.raiseS (.bin .add (.bin .add (.cst (.str [97,114,103,117,109,101,110,116,32,34])) (.var 0 1)) (.cst (.str [34,32,105,115,32,109,105,115,115,105,110,103,44,32,119,105,116,104,32,110,111,32,100,101,102,97,117,108,116])))) .nil) .nil) (.cons (.ret false (.var 0 0)) .nil))⟩
noncomputable def A8z:FC:=⟨3,7,[.none],(.cons (.unp [3,4] (.callF 24 (.cons (.callB .list (.cons (.var 0 1) .nil)) (.cons (.var 0 0) (.cons (.var 0 2) .nil))))) (.cons (.asg 5 true (.lstE .nil)) (.cons (.forS 6 (.var 0 1) (.cons (.ifS (.cmp .eq (.var 0 6) (.cst (.str [46,46,46]))) (.cons (.expr (.meth .append (.var 0 5) (.cons (.comp (.sub (.var 1 0) (.var 0 0)) (.var 0 4) .nil 0) .nil))) .nil) (.cons (.ifS (.cmp .isIn (.var 0 6) (.var 0 3)) (.cons (.expr (.meth .append (.var 0 5) (.cons (.sub (.sub (.var 0 0) (.sub (.var 0 3) (.var 0 6))) (.cst (.int (1)))) .nil))) .nil) (.cons (.expr (.meth .append (.var 0 5) (.cons (.cst .none) .nil))) .nil)) .nil)) .nil)) (.cons (.ret false (.var 0 5)) .nil))))⟩
noncomputable def Q5:FC:=⟨1,2,[],(.cons (.asg 1 false (.tupE (.cons (.cst (.str [78,85,76,76])) (.cons (.cst (.str [108,111,103,105,99,97,108])) (.cons (.cst (.str [105,110,116,101,103,101,114])) (.cons (.cst (.str [100,111,117,98,108,101])) (.cons (.cst (.str [99,104,97,114,97,99,116,101,114])) (.cons (.cst (.str [108,105,115,116])) (.cons (.cst (.str [101,120,112,114,101,115,115,105,111,110])) .nil))))))))) (.cons (.ifS (.cmp .isIn (.var 0 0) (.var 0 1)) (.cons (.ret false (.meth .index (.var 0 1) (.cons (.var 0 0) .nil))) .nil) .nil) (.cons (.ret false (.cst (.int (5)))) .nil)))⟩
noncomputable def N4:FC:=⟨1,4,[],(.cons (.asg 1 false (.tupE (.cons (.cst (.str [78,85,76,76])) (.cons (.cst (.str [108,111,103,105,99,97,108])) (.cons (.cst (.str [105,110,116,101,103,101,114])) (.cons (.cst (.str [100,111,117,98,108,101])) (.cons (.cst (.str [99,104,97,114,97,99,116,101,114])) (.cons (.cst (.str [108,105,115,116])) (.cons (.cst (.str [101,120,112,114,101,115,115,105,111,110])) .nil))))))))) (.cons (.asg 2 false (.cst (.int (0)))) (.cons (.forS 3 (.var 0 0) (.cons (.asg 2 false (.callB .max (.cons (.var 0 2) (.cons (.callF 27 (.cons (.var 0 3) .nil)) .nil)))) .nil)) (.cons (.ret false (.sub (.var 0 1) (.var 0 2))) .nil))))⟩
noncomputable def So:FC:=⟨3,3,[],(.cons (.ifS (.boolE false (.cons (.cmp .eq (.var 0 0) (.cst (.str [100,111,117,98,108,101]))) (.cons (.cmp .is (.var 0 1) (.cst .none)) .nil))) (.cons (.ret false (.var 0 1)) .nil) .nil) (.cons (.ifS (.cmp .eq (.var 0 0) (.cst (.str [99,104,97,114,97,99,116,101,114]))) (.cons .dead .nil) .nil) (.cons (.ret false (.callF 0 (.cons (.var 0 1) .nil))) .nil)))⟩
noncomputable def Ya:FC:=⟨4,4,[],(.cons (.ifS (.cmp .eq (.var 0 0) (.var 0 2)) (.cons (.ret false (.var 0 1)) .nil) .nil) (.cons (.ifS (.boolE false (.cons (.cmp .eq (.var 0 2) (.cst (.str [108,105,115,116]))) (.cons (.cmp .eq (.var 0 2) (.cst (.str [101,120,112,114,101,115,115,105,111,110]))) (.cons (.cmp .eq (.var 0 2) (.cst (.str [112,97,105,114,108,105,115,116]))) .nil)))) (.cons (.ret false (.ite (.callF 31 (.cons (.var 0 0) .nil)) (.callF 10 (.cons (.callC 0 (.cons (.var 0 0) (.cons (.lstE (.cons (.var 0 1) .nil)) .nil))) .nil)) (.var 0 1))) .nil) .nil) (.cons (.ifS (.notE (.callF 31 (.cons (.var 0 0) .nil))) (.cons .dead .nil) .nil) (.cons (.ifS (.cmp .eq (.var 0 2) (.cst (.str [108,111,103,105,99,97,108]))) (.cons .dead .nil) .nil) (.cons (.ifS (.cmp .eq (.var 0 2) (.cst (.str [105,110,116,101,103,101,114]))) (.cons .dead .nil) .nil) (.cons (.ifS (.cmp .eq (.var 0 2) (.cst (.str [100,111,117,98,108,101]))) (.cons (.ret false (.callF 29 (.cons (.var 0 0) (.cons (.var 0 1) (.cons (.var 0 3) .nil))))) .nil) .nil) (.cons .dead .nil)))))))⟩
noncomputable def Jd:FC:=⟨1,1,[],(.cons (.ret false (.cmp .isIn (.var 0 0) (.tupE (.cons (.cst (.str [108,111,103,105,99,97,108])) (.cons (.cst (.str [105,110,116,101,103,101,114])) (.cons (.cst (.str [100,111,117,98,108,101])) (.cons (.cst (.str [99,104,97,114,97,99,116,101,114])) .nil))))))) .nil)⟩
noncomputable def Px:FC:=⟨2,2,[],(.cons (.ifS (.cmp .isNot (.var 0 1) (.cst .none)) (.cons (.setA (.var 0 0) [97,116,116,114,115] false (.dctE [[110,97,109,101,115]] (.cons (.callF 10 (.cons (.callF 6 (.cons (.var 0 1) .nil)) .nil)) .nil))) .nil) .nil) (.cons (.ret false (.var 0 0)) .nil))⟩
noncomputable def Yd:FC:=⟨3,4,[],(.cons (.ifS (.notE (.callB .isinst (.cons (.var 0 0) (.cons (.glb (.ref cVec)) .nil)))) (.cons .dead .nil) .nil) (.cons (.asg 3 false (.attr (.var 0 0) [105,116,101,109,115])) (.cons (.ifS (.cmp .ne (.attr (.var 0 0) [107,105,110,100]) (.var 0 1)) (.cons (.asg 3 false (.comp (.callF 30 (.cons (.attr (.var 1 0) [107,105,110,100]) (.cons (.var 0 0) (.cons (.var 1 1) (.cons (.var 1 2) .nil))))) (.attr (.var 0 0) [105,116,101,109,115]) .nil 0)) .nil) .nil) (.cons (.ret false (.callF 32 (.cons (.callC 0 (.cons (.var 0 1) (.cons (.callB .list (.cons (.var 0 3) .nil)) .nil))) (.cons (.callF 14 (.cons (.var 0 0) .nil)) .nil)))) .nil))))⟩
noncomputable def Yb:FC:=⟨2,3,[],(.cons (.ifS (.cmp .is (.var 0 0) (.cst .none)) (.cons (.ret false (.var 0 1)) .nil) .nil) (.cons (.asg 2 false (.attr (.callF 33 (.cons (.var 0 0) (.cons (.cst (.str [108,111,103,105,99,97,108])) (.cons (.lstE .nil) .nil)))) [105,116,101,109,115])) (.cons (.ifS (.boolE false (.cons (.cmp .eq (.callB .len (.cons (.var 0 2) .nil)) (.cst (.int (0)))) (.cons (.cmp .is (.sub (.var 0 2) (.cst (.int (0)))) (.cst .none)) .nil))) (.cons (.raiseS (.cst (.str [105,110,118,97,108,105,100,32,97,114,103,117,109,101,110,116,58,32,110,101,105,116,104,101,114,32,84,82,85,69,32,110,111,114,32,70,65,76,83,69]))) .nil) .nil) (.cons (.ret false (.cmp .eq (.sub (.var 0 2) (.cst (.int (0)))) (.cst (.int (1))))) .nil))))⟩
noncomputable def Ut:FC:=⟨1,3,[],(.cons (.ifS (.boolE false (.cons (.cmp .ne (.attr (.var 0 0) [107,105,110,100]) (.cst (.str [108,105,115,116]))) (.cons (.cmp .notIn (.cst (.str [100,97,116,97,46,102,114,97,109,101])) (.callF 16 (.cons (.var 0 0) .nil))) (.cons (.cmp .notIn (.cst (.str [114,111,119,46,110,97,109,101,115])) (.attr (.var 0 0) [97,116,116,114,115])) .nil)))) (.cons (.ret false (.cst (.bool false))) .nil) .nil) (.cons (.asg 1 false (.callF 14 (.cons (.var 0 0) .nil))) (.cons (.ifS (.boolE true (.cons (.cmp .gt (.callB .len (.cons (.attr (.var 0 0) [105,116,101,109,115]) .nil)) (.cst (.int (0)))) (.cons (.boolE false (.cons (.cmp .is (.var 0 1) (.cst .none)) (.cons (.cmp .ne (.callB .len (.cons (.var 0 1) .nil)) (.callB .len (.cons (.attr (.var 0 0) [105,116,101,109,115]) .nil))) .nil))) .nil))) (.cons (.ret false (.cst (.bool false))) .nil) .nil) (.cons (.forS 2 (.attr (.var 0 0) [105,116,101,109,115]) (.cons (.ifS (.boolE false (.cons (.notE (.callF 8 (.cons (.var 0 2) .nil))) (.cons (.cmp .ne (.callB .len (.cons (.attr (.var 0 2) [105,116,101,109,115]) .nil)) (.callF 39 (.cons (.var 0 0) .nil))) .nil))) (.cons (.ret false (.cst (.bool false))) .nil) .nil) .nil)) (.cons (.ret false (.cst (.bool true))) .nil)))))⟩
noncomputable def Su:FC:=⟨1,1,[],(.cons (.ret false (.boolE true (.cons (.cmp .eq (.attr (.var 0 0) [107,105,110,100]) (.cst (.str [105,110,116,101,103,101,114]))) (.cons (.cmp .isIn (.cst (.str [102,97,99,116,111,114])) (.callF 16 (.cons (.var 0 0) .nil))) (.cons (.cmp .isIn (.cst (.str [108,101,118,101,108,115])) (.attr (.var 0 0) [97,116,116,114,115])) (.cons (.callF 9 (.cons (.sub (.attr (.var 0 0) [97,116,116,114,115]) (.cst (.str [108,101,118,101,108,115]))) .nil)) .nil)))))) .nil)⟩
noncomputable def Sp:FC:=⟨3,4,[],(.cons (.asg 3 true (.callC 0 (.cons (.cst (.str [108,105,115,116])) (.cons (.comp (.callF 10 (.cons (.var 0 0) .nil)) (.var 0 0) .nil 0) .nil)))) (.cons (.setA (.var 0 3) [97,116,116,114,115] false (.dctE [[110,97,109,101,115],[99,108,97,115,115],[114,111,119,46,110,97,109,101,115]] (.cons (.callF 6 (.cons (.var 0 1) .nil)) (.cons (.callF 6 (.cons (.lstE (.cons (.cst (.str [100,97,116,97,46,102,114,97,109,101])) .nil)) .nil)) (.cons (.var 0 2) .nil))))) (.cons (.ret false (.var 0 3)) .nil)))⟩
noncomputable def Q0:FC:=⟨1,1,[],(.cons (.ret false (.callF 5 (.cons (.callB .list (.cons (.callB .range (.cons (.cst (.int (1))) (.cons (.bin .add (.var 0 0) (.cst (.int (1)))) .nil))) .nil)) .nil))) .nil)⟩
noncomputable def Q9:FC:=⟨1,1,[],(.cons (.ifS (.boolE false (.cons (.cmp .is (.attr (.var 0 0) [97,116,116,114,115]) (.cst .none)) (.cons (.cmp .notIn (.cst (.str [114,111,119,46,110,97,109,101,115])) (.attr (.var 0 0) [97,116,116,114,115])) .nil))) (.cons (.ret false (.cst (.int (0)))) .nil) .nil) (.cons (.ret false (.callB .len (.cons (.attr (.sub (.attr (.var 0 0) [97,116,116,114,115]) (.cst (.str [114,111,119,46,110,97,109,101,115]))) [105,116,101,109,115]) .nil))) .nil))⟩
noncomputable def Mk:FC:=⟨1,2,[],(.cons (.asg 1 false (.callF 14 (.cons (.var 0 0) .nil))) (.cons (.ret false (.ite (.cmp .is (.var 0 1) (.cst .none)) (.lstE .nil) (.comp (.ite (.cmp .is (.var 0 0) (.cst .none)) (.cst (.str [78,65])) (.var 0 0)) (.var 0 1) .nil 0))) .nil))⟩
noncomputable def Q7:FC:=⟨1,3,[],(.cons (.ifS (.cmp .is (.attr (.var 0 0) [97,116,116,114,115]) (.cst .none)) (.cons (.ret false (.cst .none)) .nil) .nil) (.cons (.asg 1 true (.dctE [] .nil)) (.cons (.forS 2 (.attr (.var 0 0) [97,116,116,114,115]) (.cons (.ifS (.cmp .notIn (.var 0 2) (.tupE (.cons (.cst (.str [110,97,109,101,115])) (.cons (.cst (.str [100,105,109])) (.cons (.cst (.str [100,105,109,110,97,109,101,115])) .nil))))) (.cons (.setI (.var 0 1) (.var 0 2) (.sub (.attr (.var 0 0) [97,116,116,114,115]) (.var 0 2))) .nil) .nil) .nil)) (.cons (.ret false (.ite (.cmp .gt (.callB .len (.cons (.var 0 1) .nil)) (.cst (.int (0)))) (.var 0 1) (.cst .none))) .nil))))⟩
noncomputable def Y9:FC:=⟨1,1,[],(.cons (.ifS (.cmp .isIn (.var 0 0) (.tupE (.cons (.cst (.str [108,105,115,116])) (.cons (.cst (.str [101,120,112,114,101,115,115,105,111,110])) (.cons (.cst (.str [112,97,105,114,108,105,115,116])) .nil))))) (.cons .dead .nil) .nil) (.cons (.ret false (.cst .none)) .nil))⟩
noncomputable def Q1:FC:=⟨2,5,[],(.cons (.asg 2 true (.lstE .nil)) (.cons (.asg 3 false (.callB .len (.cons (.attr (.var 0 0) [105,116,101,109,115]) .nil))) (.cons (.forS 4 (.var 0 1) (.cons (.ifS (.boolE false (.cons (.cmp .is (.var 0 4) (.cst .none)) (.cons (.cmp .ge (.var 0 4) (.var 0 3)) .nil))) (.cons (.expr (.meth .append (.var 0 2) (.cons (.callF 42 (.cons (.attr (.var 0 0) [107,105,110,100]) .nil)) .nil))) .nil) (.cons (.expr (.meth .append (.var 0 2) (.cons (.sub (.attr (.var 0 0) [105,116,101,109,115]) (.var 0 4)) .nil))) .nil)) .nil)) (.cons (.ret false (.callC 0 (.cons (.attr (.var 0 0) [107,105,110,100]) (.cons (.var 0 2) (.cons (.callF 41 (.cons (.var 0 0) .nil)) .nil))))) .nil))))⟩
noncomputable def Q8:FC:=⟨2,2,[],(.cons (.ret false (.boolE false (.cons (.cmp .is (.var 0 1) (.cst .none)) (.cons (.boolE true (.cons (.cmp .eq (.var 0 0) (.cst (.str [100,111,117,98,108,101]))) (.cons (.cmp .eq (.var 0 1) (.tupE (.cons (.cst (.int (0))) (.cons (.cst (.int (0))) .nil)))) .nil))) .nil)))) .nil)⟩
noncomputable def Ex:FC:=⟨3,3,[],(.cons (.ifS (.cmp .eq (.var 0 0) (.cst (.str [100,111,117,98,108,101]))) (.cons .dead .nil) .nil) (.cons (.ifS (.cmp .lt (.var 0 1) (.var 0 2)) (.cons (.ret false (.negE (.cst (.int (1))))) .nil) .nil) (.cons (.ifS (.cmp .gt (.var 0 1) (.var 0 2)) (.cons (.ret false (.cst (.int (1)))) .nil) .nil) (.cons (.ret false (.cst (.int (0)))) .nil))))⟩
noncomputable def Jf:FC:=⟨1,1,[],(.cons (.ifS (.cmp .notIn (.attr (.var 0 0) [107,105,110,100]) (.tupE (.cons (.cst (.str [108,111,103,105,99,97,108])) (.cons (.cst (.str [105,110,116,101,103,101,114])) (.cons (.cst (.str [100,111,117,98,108,101])) (.cons (.cst (.str [99,104,97,114,97,99,116,101,114])) .nil)))))) (.cons (.raiseS (.fstr (.cons (.cst (.str [117,110,105,109,112,108,101,109,101,110,116,101,100,32,116,121,112,101,32,39])) (.cons (.attr (.var 0 0) [107,105,110,100]) (.cons (.cst (.str [39,32,105,110,32,39,111,114,100,101,114,86,101,99,116,111,114,49,39])) .nil))))) .nil) .nil) .nil)⟩
noncomputable def Ed:FC:=⟨5,10,[],(.cons (.asg 5 false (.sub (.attr (.var 0 0) [105,116,101,109,115]) (.var 0 1))) (.cons (.asg 6 false (.sub (.attr (.var 0 0) [105,116,101,109,115]) (.var 0 2))) (.cons (.asg 7 false (.callF 44 (.cons (.attr (.var 0 0) [107,105,110,100]) (.cons (.var 0 5) .nil)))) (.cons (.asg 8 false (.callF 44 (.cons (.attr (.var 0 0) [107,105,110,100]) (.cons (.var 0 6) .nil)))) (.cons (.ifS (.boolE true (.cons (.var 0 7) (.cons (.var 0 8) .nil))) (.cons (.ret false (.cst (.int (0)))) .nil) .nil) (.cons (.ifS (.var 0 7) (.cons (.ret false (.ite (.var 0 4) (.cst (.int (1))) (.negE (.cst (.int (1)))))) .nil) .nil) (.cons (.ifS (.var 0 8) (.cons (.ret false (.ite (.var 0 4) (.negE (.cst (.int (1)))) (.cst (.int (1))))) .nil) .nil) (.cons (.asg 9 false (.callF 45 (.cons (.attr (.var 0 0) [107,105,110,100]) (.cons (.var 0 5) (.cons (.var 0 6) .nil))))) (.cons (.ret false (.ite (.var 0 3) (.negE (.var 0 9)) (.var 0 9))) .nil)))))))))⟩
noncomputable def Fw:FC:=⟨5,7,[],(.cons (.forS 5 (.callB .range (.cons (.callB .len (.cons (.var 0 0) .nil)) .nil)) (.cons (.asg 6 false (.callF 47 (.cons (.sub (.var 0 0) (.var 0 5)) (.cons (.var 0 1) (.cons (.var 0 2) (.cons (.sub (.var 0 3) (.var 0 5)) (.cons (.var 0 4) .nil))))))) (.cons (.ifS (.cmp .ne (.var 0 6) (.cst (.int (0)))) (.cons (.ret false (.var 0 6)) .nil) .nil) .nil))) (.cons (.ret false (.cst (.int (0)))) .nil))⟩
noncomputable def Q3:FC:=⟨5,8,[],(.cons (.asg 5 true (.lstE .nil)) (.cons (.asg 6 false (.cst (.int (0)))) (.cons (.asg 7 false (.cst (.int (0)))) (.cons (.whl (.boolE true (.cons (.cmp .lt (.var 0 6) (.callB .len (.cons (.var 0 0) .nil))) (.cons (.cmp .lt (.var 0 7) (.callB .len (.cons (.var 0 1) .nil))) .nil))) (.cons (.ifS (.cmp .le (.callF 48 (.cons (.var 0 2) (.cons (.sub (.var 0 0) (.var 0 6)) (.cons (.sub (.var 0 1) (.var 0 7)) (.cons (.var 0 3) (.cons (.var 0 4) .nil)))))) (.cst (.int (0)))) (.cons (.expr (.meth .append (.var 0 5) (.cons (.sub (.var 0 0) (.var 0 6)) .nil))) (.cons (.aug 6 .add (.cst (.int (1)))) .nil)) (.cons (.expr (.meth .append (.var 0 5) (.cons (.sub (.var 0 1) (.var 0 7)) .nil))) (.cons (.aug 7 .add (.cst (.int (1)))) .nil))) .nil)) (.cons (.ret false (.bin .add (.bin .add (.var 0 5) (.slcFrom (.var 0 0) (.var 0 6))) (.slcFrom (.var 0 1) (.var 0 7)))) .nil)))))⟩
noncomputable def Q2:FC:=⟨4,7,[],(.cons (.asg 4 false (.comp (.lstE (.cons (.var 0 0) .nil)) (.var 0 0) .nil 0)) (.cons (.ifS (.cmp .eq (.callB .len (.cons (.var 0 4) .nil)) (.cst (.int (0)))) (.cons (.ret false (.lstE .nil)) .nil) .nil) (.cons (.whl (.cmp .gt (.callB .len (.cons (.var 0 4) .nil)) (.cst (.int (1)))) (.cons (.asg 5 true (.lstE .nil)) (.cons (.forS 6 (.callB .range (.cons (.cst (.int (0))) (.cons (.bin .sub (.callB .len (.cons (.var 0 4) .nil)) (.cst (.int (1)))) (.cons (.cst (.int (2))) .nil)))) (.cons (.expr (.meth .append (.var 0 5) (.cons (.callF 49 (.cons (.sub (.var 0 4) (.var 0 6)) (.cons (.sub (.var 0 4) (.bin .add (.var 0 6) (.cst (.int (1))))) (.cons (.var 0 1) (.cons (.var 0 2) (.cons (.var 0 3) .nil)))))) .nil))) .nil)) (.cons (.ifS (.cmp .eq (.bin .mod (.callB .len (.cons (.var 0 4) .nil)) (.cst (.int (2)))) (.cst (.int (1)))) (.cons (.expr (.meth .append (.var 0 5) (.cons (.sub (.var 0 4) (.negE (.cst (.int (1))))) .nil))) .nil) .nil) (.cons (.asg 4 false (.var 0 5)) .nil))))) (.cons (.ret false (.sub (.var 0 4) (.cst (.int (0))))) .nil))))⟩
noncomputable def Uw:FC:=⟨2,2,[],(.cons (.ifS (.callB .isinst (.cons (.var 0 0) (.cons (.glb (.type "list")) .nil))) (.cons (.ret false (.comp (.sub (.var 1 0) (.bin .mod (.var 0 0) (.callB .len (.cons (.var 1 0) .nil)))) (.callB .range (.cons (.var 0 1) .nil)) .nil 0)) .nil) .nil) (.cons (.ret false (.bin .mul (.lstE (.cons (.var 0 0) .nil)) (.var 0 1))) .nil))⟩
noncomputable def N3:FC:=⟨2,6,[],(.cons (.asg 2 true (.lstE .nil)) (.cons (.forS 3 (.callB .range (.cons (.callF 7 (.cons (.sub (.var 0 0) (.cst (.int (0)))) .nil)) .nil)) (.cons (.asg 4 false (.cst (.bool true))) (.cons (.ifS (.cmp .is (.var 0 1) (.cst .none)) (.cons (.forS 5 (.var 0 0) (.cons (.ifS (.callF 44 (.cons (.attr (.var 0 5) [107,105,110,100]) (.cons (.sub (.attr (.var 0 5) [105,116,101,109,115]) (.var 0 3)) .nil))) (.cons (.asg 4 false (.cst (.bool false))) .nil) .nil) .nil)) .nil) .nil) (.cons (.ifS (.var 0 4) (.cons (.expr (.meth .append (.var 0 2) (.cons (.var 0 3) .nil))) .nil) .nil) .nil)))) (.cons (.ret false (.var 0 2)) .nil)))⟩
noncomputable def Ur:FC:=⟨3,5,[(.bool false),(.bool true)],(.cons (.ifS (.cmp .eq (.callB .len (.cons (.var 0 0) .nil)) (.cst (.int (0)))) (.cons (.ret false (.lstE .nil)) .nil) .nil) (.cons (.forS 3 (.var 0 0) (.cons (.expr (.callF 46 (.cons (.var 0 3) .nil))) (.cons (.ifS (.cmp .ne (.callF 7 (.cons (.var 0 3) .nil)) (.callF 7 (.cons (.sub (.var 0 0) (.cst (.int (0)))) .nil))) (.cons (.raiseS (.cst (.str [97,114,103,117,109,101,110,116,32,108,101,110,103,116,104,115,32,100,105,102,102,101,114]))) .nil) .nil) .nil))) (.cons (.asg 4 false (.callF 51 (.cons (.var 0 1) (.cons (.callB .len (.cons (.var 0 0) .nil)) .nil)))) (.cons (.ret false (.callF 50 (.cons (.callF 52 (.cons (.var 0 0) (.cons (.var 0 2) .nil))) (.cons (.var 0 0) (.cons (.var 0 4) (.cons (.boolE false (.cons (.cmp .is (.var 0 2) (.cst .none)) (.cons (.var 0 2) .nil))) .nil)))))) .nil))))⟩
noncomputable def Ka:FC:=⟨1,5,[],(.cons (.ifS (.callF 36 (.cons (.sub (.var 0 0) (.cst (.int (0)))) .nil)) (.cons .dead .nil) .nil) (.cons (.asg 1 true (.lstE .nil)) (.cons (.forS 2 (.var 0 0) (.cons (.expr (.meth .append (.var 0 1) (.cons (.ite (.callF 36 (.cons (.var 0 2) .nil)) (.callF 6 (.cons (.callF 13 (.cons (.var 0 2) .nil)) .nil)) (.var 0 2)) .nil))) .nil)) (.cons (.asg 3 false (.callF 28 (.cons (.comp (.attr (.var 0 0) [107,105,110,100]) (.var 0 1) .nil 0) .nil))) (.cons (.asg 4 true (.lstE .nil)) (.cons (.forS 2 (.var 0 1) (.cons (.ifS (.cmp .eq (.attr (.var 0 2) [107,105,110,100]) (.var 0 3)) (.cons (.expr (.meth .extend (.var 0 4) (.cons (.attr (.var 0 2) [105,116,101,109,115]) .nil))) .nil) (.cons (.ifS (.cmp .eq (.var 0 3) (.cst (.str [108,105,115,116]))) (.cons .dead .nil) (.cons (.expr (.meth .extend (.var 0 4) (.cons (.attr (.callF 33 (.cons (.var 0 2) (.cons (.var 0 3) (.cons (.lstE .nil) .nil)))) [105,116,101,109,115]) .nil))) .nil)) .nil)) .nil)) (.cons (.ret false (.callC 0 (.cons (.var 0 3) (.cons (.var 0 4) (.cons (.callF 41 (.cons (.sub (.var 0 0) (.cst (.int (0)))) .nil)) .nil))))) .nil)))))))⟩
noncomputable def N5:FC:=⟨1,2,[],(.cons (.ifS (.boolE false (.cons (.callF 36 (.cons (.var 0 0) .nil)) (.cons (.cmp .isIn (.attr (.var 0 0) [107,105,110,100]) (.tupE (.cons (.cst (.str [99,104,97,114,97,99,116,101,114])) (.cons (.cst (.str [108,111,103,105,99,97,108])) .nil)))) .nil))) (.cons (.ret false (.comp (.ite (.cmp .is (.var 0 0) (.cst .none)) (.cst (.str [78,65])) (.bin .add (.cst (.str [61])) (.var 0 0))) (.callF 13 (.cons (.var 0 0) .nil)) .nil 0)) .nil) .nil) (.cons (.ifS (.cmp .isIn (.attr (.var 0 0) [107,105,110,100]) (.tupE (.cons (.cst (.str [105,110,116,101,103,101,114])) (.cons (.cst (.str [100,111,117,98,108,101])) .nil)))) (.cons (.asg 1 false (.attr (.callF 33 (.cons (.var 0 0) (.cons (.cst (.str [100,111,117,98,108,101])) (.cons (.lstE .nil) .nil)))) [105,116,101,109,115])) (.cons (.ret false (.comp (.ite (.cmp .is (.var 0 0) (.cst .none)) (.cst (.str [78,65])) (.bin .add (.cst (.str [61])) (.callF 3 (.cons (.var 0 0) .nil)))) (.var 0 1) .nil 0)) .nil)) .nil) (.cons (.raiseS (.cst (.str [97,32,108,105,115,116,32,99,97,110,39,116,32,98,101,32,97,32,107,101,121]))) .nil)))⟩
noncomputable def Uq:FC:=⟨2,5,[],(.cons (.asg 2 false (.comp (.callF 55 (.cons (.var 0 0) .nil)) (.var 0 0) .nil 0)) (.cons (.asg 3 true (.lstE .nil)) (.cons (.forS 4 (.callB .range (.cons (.var 0 1) .nil)) (.cons (.expr (.meth .append (.var 0 3) (.cons (.meth .join (.cst (.str [])) (.cons (.comp (.fstr (.cons (.callB .len (.cons (.sub (.var 0 0) (.var 1 4)) .nil)) (.cons (.cst (.str [58])) (.cons (.sub (.var 0 0) (.var 1 4)) .nil)))) (.var 0 2) .nil 0) .nil)) .nil))) .nil)) (.cons (.ret false (.var 0 3)) .nil))))⟩
noncomputable def Ux:FC:=⟨2,5,[],(.cons (.asg 2 false (.callF 40 (.cons (.var 0 0) .nil))) (.cons (.asg 3 true (.lstE .nil)) (.cons (.forS 4 (.var 0 1) (.cons (.ifS (.cmp .ne (.meth .count (.var 0 2) (.cons (.var 0 4) .nil)) (.cst (.int (1)))) (.cons (.raiseS (.cst (.str [39,98,121,39,32,109,117,115,116,32,115,112,101,99,105,102,121,32,97,32,117,110,105,113,117,101,108,121,32,118,97,108,105,100,32,99,111,108,117,109,110]))) .nil) .nil) (.cons (.expr (.meth .append (.var 0 3) (.cons (.meth .index (.var 0 2) (.cons (.var 0 4) .nil)) .nil))) .nil))) (.cons (.ret false (.var 0 3)) .nil))))⟩
noncomputable def K9:FC:=⟨2,6,[],(.cons (.asg 2 true (.dctE [] .nil)) (.cons (.forS 3 (.callB .range (.cons (.callB .len (.cons (.var 0 1) .nil)) .nil)) (.cons (.expr (.sdApp (.var 0 2) (.sub (.var 0 1) (.var 0 3)) 0 3)) .nil)) (.cons (.asg 4 true (.lstE .nil)) (.cons (.forS 3 (.callB .range (.cons (.callB .len (.cons (.var 0 0) .nil)) .nil)) (.cons (.forS 5 (.meth .get (.var 0 2) (.cons (.sub (.var 0 0) (.var 0 3)) (.cons (.lstE .nil) .nil))) (.cons (.expr (.meth .append (.var 0 4) (.cons (.tupE (.cons (.var 0 3) (.cons (.var 0 5) .nil))) .nil))) .nil)) .nil)) (.cons (.ret true (.var 0 4)) .nil)))))⟩
noncomputable def N1:FC:=⟨2,4,[],(.cons (.asg 2 true (.dctE [] .nil)) (.cons (.forS 3 (.var 0 1) (.cons (.setI (.var 0 2) (.var 0 3) (.cst (.bool true))) .nil)) (.cons (.ret false (.comp (.var 0 0) (.callB .range (.cons (.callB .len (.cons (.var 0 0) .nil)) .nil)) (.cons (.cmp .notIn (.sub (.var 1 0) (.var 0 0)) (.var 1 2)) .nil) 0)) .nil)))⟩
noncomputable def Mi:FC:=⟨4,6,[],(.cons (.asg 4 true (.callF 58 (.cons (.var 0 0) (.cons (.var 0 1) .nil)))) (.cons (.ifS (.var 0 2) (.cons (.forS 5 (.callF 59 (.cons (.var 0 0) (.cons (.var 0 1) .nil))) (.cons (.expr (.meth .append (.var 0 4) (.cons (.tupE (.cons (.var 0 5) (.cons (.cst .none) .nil))) .nil))) .nil)) .nil) .nil) (.cons (.ifS (.var 0 3) (.cons (.forS 5 (.callF 59 (.cons (.var 0 1) (.cons (.var 0 0) .nil))) (.cons (.expr (.meth .append (.var 0 4) (.cons (.tupE (.cons (.cst .none) (.cons (.var 0 5) .nil))) .nil))) .nil)) .nil) .nil) (.cons (.ret false (.var 0 4)) .nil))))⟩
noncomputable def Q6:FC:=⟨3,8,[],(.cons (.asg 3 false (.callF 54 (.cons (.lstE (.cons (.var 0 0) (.cons (.var 0 1) .nil))) .nil))) (.cons (.asg 4 false (.callB .len (.cons (.attr (.var 0 0) [105,116,101,109,115]) .nil))) (.cons (.asg 5 true (.lstE .nil)) (.cons (.forT [6,7] (.var 0 2) (.cons (.expr (.meth .append (.var 0 5) (.cons (.ite (.cmp .is (.var 0 6) (.cst .none)) (.bin .add (.var 0 4) (.var 0 7)) (.var 0 6)) .nil))) .nil)) (.cons (.ret false (.callF 43 (.cons (.var 0 3) (.cons (.var 0 5) .nil)))) .nil)))))⟩
noncomputable def My:FC:=⟨4,6,[],(.cons (.asg 4 true (.lstE .nil)) (.cons (.forS 5 (.var 0 0) (.cons (.ifS (.cmp .notIn (.var 0 5) (.var 0 2)) (.cons (.expr (.meth .append (.var 0 4) (.cons (.ite (.cmp .isIn (.var 0 5) (.var 0 1)) (.bin .add (.var 0 5) (.var 0 3)) (.var 0 5)) .nil))) .nil) .nil) .nil)) (.cons (.ret false (.var 0 4)) .nil)))⟩
noncomputable def Uo:FC:=⟨1,1,[],(.cons (.ret false (.callC 0 (.cons (.attr (.var 0 0) [107,105,110,100]) (.cons (.attr (.var 0 0) [105,116,101,109,115]) .nil)))) .nil)⟩
noncomputable def Mz:FC:=⟨2,6,[],(.cons (.ifS (.boolE false (.cons (.var 0 1) (.cons (.boolE true (.cons (.cmp .eq (.callB .len (.cons (.var 0 0) .nil)) (.cst (.int (1)))) (.cons (.notE (.callF 36 (.cons (.sub (.var 0 0) (.cst (.int (0)))) .nil))) .nil))) .nil))) (.cons (.ret false (.comp (.callF 63 (.cons (.var 0 0) .nil)) (.var 0 0) .nil 0)) .nil) .nil) (.cons (.ifS (.cmp .eq (.callB .len (.cons (.var 0 0) .nil)) (.cst (.int (1)))) (.cons (.ret false (.lstE (.cons (.callF 6 (.cons (.callF 13 (.cons (.sub (.var 0 0) (.cst (.int (0)))) .nil)) .nil)) .nil))) .nil) .nil) (.cons (.asg 2 true (.lstE .nil)) (.cons (.asg 3 false (.comp (.callF 13 (.cons (.var 0 0) .nil)) (.var 0 0) .nil 0)) (.cons (.forS 4 (.callB .range (.cons (.callB .len (.cons (.attr (.sub (.var 0 0) (.cst (.int (0)))) [105,116,101,109,115]) .nil)) .nil)) (.cons (.asg 5 false (.comp (.sub (.var 0 0) (.var 1 4)) (.var 0 3) .nil 0)) (.cons (.expr (.meth .append (.var 0 2) (.cons (.meth .join (.cst (.str [13])) (.cons (.comp (.ite (.cmp .is (.var 0 0) (.cst .none)) (.cst (.str [78,65])) (.var 0 0)) (.var 0 5) .nil 0) .nil)) .nil))) .nil))) (.cons (.ret false (.lstE (.cons (.callF 6 (.cons (.var 0 2) .nil)) .nil))) .nil))))))⟩
noncomputable def Fv:FC:=⟨7,19,[(.bool true)],(.cons (.asg 7 false (.callF 57 (.cons (.var 0 0) (.cons (.var 0 2) .nil)))) (.cons (.asg 8 false (.callF 57 (.cons (.var 0 1) (.cons (.var 0 2) .nil)))) (.cons (.ifS (.cmp .eq (.callB .len (.cons (.var 0 2) .nil)) (.cst (.int (0)))) (.cons .dead .nil) (.cons (.asg 11 false (.callF 56 (.cons (.comp (.sub (.attr (.var 1 0) [105,116,101,109,115]) (.var 0 0)) (.var 0 7) .nil 0) (.cons (.callF 39 (.cons (.var 0 0) .nil)) .nil)))) (.cons (.asg 12 false (.callF 56 (.cons (.comp (.sub (.attr (.var 1 1) [105,116,101,109,115]) (.var 0 0)) (.var 0 8) .nil 0) (.cons (.callF 39 (.cons (.var 0 1) .nil)) .nil)))) (.cons (.asg 9 false (.callF 60 (.cons (.var 0 11) (.cons (.var 0 12) (.cons (.var 0 3) (.cons (.var 0 4) .nil)))))) .nil)))) (.cons (.asg 13 true (.lstE .nil)) (.cons (.forS 14 (.callB .range (.cons (.callB .len (.cons (.var 0 2) .nil)) .nil)) (.cons (.expr (.meth .append (.var 0 13) (.cons (.callF 61 (.cons (.sub (.attr (.var 0 0) [105,116,101,109,115]) (.sub (.var 0 7) (.var 0 14))) (.cons (.sub (.attr (.var 0 1) [105,116,101,109,115]) (.sub (.var 0 8) (.var 0 14))) (.cons (.var 0 9) .nil)))) .nil))) .nil)) (.cons (.ifS (.boolE true (.cons (.cmp .gt (.callB .len (.cons (.var 0 2) .nil)) (.cst (.int (0)))) (.cons (.var 0 6) .nil))) (.cons (.asg 15 false (.callF 53 (.cons (.callF 64 (.cons (.var 0 13) (.cons (.boolE false (.cons (.var 0 3) (.cons (.var 0 4) .nil))) .nil))) .nil))) (.cons (.asg 9 false (.comp (.sub (.var 1 9) (.var 0 0)) (.var 0 15) .nil 0)) (.cons (.asg 13 true (.comp (.callF 43 (.cons (.var 0 0) (.cons (.var 1 15) .nil))) (.var 0 13) .nil 0)) .nil))) .nil) (.cons (.asg 16 false (.callF 40 (.cons (.var 0 0) .nil))) (.cons (.asg 17 false (.callF 40 (.cons (.var 0 1) .nil))) (.cons (.forS 10 (.callB .range (.cons (.callB .len (.cons (.var 0 16) .nil)) .nil)) (.cons (.ifS (.cmp .notIn (.var 0 10) (.var 0 7)) (.cons (.expr (.meth .append (.var 0 13) (.cons (.callF 43 (.cons (.sub (.attr (.var 0 0) [105,116,101,109,115]) (.var 0 10)) (.cons (.comp (.sub (.var 0 0) (.cst (.int (0)))) (.var 0 9) .nil 0) .nil))) .nil))) .nil) .nil) .nil)) (.cons (.forS 10 (.callB .range (.cons (.callB .len (.cons (.var 0 17) .nil)) .nil)) (.cons (.ifS (.cmp .notIn (.var 0 10) (.var 0 8)) (.cons (.expr (.meth .append (.var 0 13) (.cons (.callF 43 (.cons (.sub (.attr (.var 0 1) [105,116,101,109,115]) (.var 0 10)) (.cons (.comp (.sub (.var 0 0) (.cst (.int (1)))) (.var 0 9) .nil 0) .nil))) .nil))) .nil) .nil) .nil)) (.cons (.asg 18 false (.bin .add (.callB .list (.cons (.var 0 2) .nil)) (.callF 62 (.cons (.var 0 16) (.cons (.var 0 17) (.cons (.var 0 2) (.cons (.sub (.var 0 5) (.cst (.int (0)))) .nil))))))) (.cons (.asg 18 false (.bin .add (.var 0 18) (.callF 62 (.cons (.var 0 17) (.cons (.var 0 16) (.cons (.var 0 2) (.cons (.sub (.var 0 5) (.cst (.int (1)))) .nil))))))) (.cons (.ret false (.callF 37 (.cons (.var 0 13) (.cons (.var 0 18) (.cons (.callF 38 (.cons (.callB .len (.cons (.var 0 9) .nil)) .nil)) .nil))))) .nil)))))))))))))⟩
noncomputable def Mj:FC:=⟨2,3,[],(.cons (.asg 2 false (.callF 40 (.cons (.var 0 1) .nil))) (.cons (.ret false (.comp (.var 0 0) (.callF 40 (.cons (.var 0 0) .nil)) (.cons (.cmp .isIn (.var 0 0) (.var 1 2)) .nil) 0)) .nil))⟩
noncomputable def Je:FC:=⟨2,2,[],(.cons (.asg 0 false (.callF 25 (.cons (.var 0 0) (.cons (.var 0 1) .nil)))) (.cons (.ifS (.notE (.callF 35 (.cons (.var 0 0) .nil))) (.cons (.raiseS (.fstr (.cons (.cst (.str [39])) (.cons (.var 0 1) (.cons (.cst (.str [39,32,109,117,115,116,32,98,101,32,97,32,100,97,116,97,32,102,114,97,109,101])) .nil))))) .nil) .nil) (.cons (.ret false (.var 0 0)) .nil)))⟩
noncomputable def Sr:FC:=⟨1,1,[],(.cons (.ifS (.cmp .eq (.attr (.var 0 0) [107,105,110,100]) (.cst (.str [78,85,76,76]))) (.cons (.ret false (.lstE .nil)) .nil) .nil) (.cons (.ifS (.cmp .ne (.attr (.var 0 0) [107,105,110,100]) (.cst (.str [99,104,97,114,97,99,116,101,114]))) (.cons (.raiseS (.cst (.str [39,98,121,39,32,109,117,115,116,32,115,112,101,99,105,102,121,32,97,32,117,110,105,113,117,101,108,121,32,118,97,108,105,100,32,99,111,108,117,109,110]))) .nil) .nil) (.cons (.ret false (.callB .list (.cons (.attr (.var 0 0) [105,116,101,109,115]) .nil))) .nil)))⟩
noncomputable def Y8:FC:=⟨3,6,[],(.cons (.asg 3 false (.callF 40 (.cons (.var 0 0) .nil))) (.cons (.asg 4 true (.lstE .nil)) (.cons (.forS 5 (.var 0 3) (.cons (.expr (.meth .append (.var 0 4) (.cons (.ite (.cmp .isIn (.var 0 5) (.var 0 1)) (.sub (.var 0 2) (.meth .index (.var 0 1) (.cons (.var 0 5) .nil))) (.var 0 5)) .nil))) .nil)) (.cons (.forS 5 (.var 0 1) (.cons (.ifS (.cmp .notIn (.var 0 5) (.var 0 3)) (.cons (.raiseS (.cst (.str [39,98,121,39,32,109,117,115,116,32,115,112,101,99,105,102,121,32,97,32,117,110,105,113,117,101,108,121,32,118,97,108,105,100,32,99,111,108,117,109,110]))) .nil) .nil) .nil)) (.cons (.ret false (.callF 37 (.cons (.attr (.var 0 0) [105,116,101,109,115]) (.cons (.var 0 4) (.cons (.sub (.attr (.var 0 0) [97,116,116,114,115]) (.cst (.str [114,111,119,46,110,97,109,101,115]))) .nil))))) .nil)))))⟩
noncomputable def Bm:FC:=⟨3,17,[],(.cons (.asg 3 false (.lstE (.cons (.cst (.str [120])) (.cons (.cst (.str [121])) (.cons (.cst (.str [98,121])) (.cons (.cst (.str [98,121,46,120])) (.cons (.cst (.str [98,121,46,121])) (.cons (.cst (.str [97,108,108])) (.cons (.cst (.str [97,108,108,46,120])) (.cons (.cst (.str [97,108,108,46,121])) (.cons (.cst (.str [115,111,114,116])) (.cons (.cst (.str [115,117,102,102,105,120,101,115])) .nil)))))))))))) (.cons (.unp [4,5,6,7,8,9,10,11,12,13] (.callF 26 (.cons (.var 0 1) (.cons (.var 0 3) .nil)))) (.cons (.asg 4 false (.callF 67 (.cons (.var 0 4) (.cons (.cst (.str [120])) .nil)))) (.cons (.asg 5 false (.callF 67 (.cons (.var 0 5) (.cons (.cst (.str [121])) .nil)))) (.cons (.ifS (.boolE true (.cons (.cmp .isNot (.var 0 7) (.cst .none)) (.cons (.cmp .isNot (.var 0 8) (.cst .none)) .nil))) (.cons (.asg 14 false (.callF 68 (.cons (.var 0 7) .nil))) (.cons (.ifS (.cmp .ne (.callB .len (.cons (.var 0 14) .nil)) (.callB .len (.cons (.callF 68 (.cons (.var 0 8) .nil)) .nil))) (.cons (.raiseS (.cst (.str [39,98,121,46,120,39,32,97,110,100,32,39,98,121,46,121,39,32,115,112,101,99,105,102,121,32,100,105,102,102,101,114,101,110,116,32,110,117,109,98,101,114,115,32,111,102,32,99,111,108,117,109,110,115]))) .nil) .nil) (.cons (.asg 5 false (.callF 69 (.cons (.var 0 5) (.cons (.callF 68 (.cons (.var 0 8) .nil)) (.cons (.var 0 14) .nil))))) .nil))) (.cons (.ifS (.cmp .isNot (.var 0 6) (.cst .none)) (.cons (.asg 14 false (.callF 68 (.cons (.var 0 6) .nil))) .nil) (.cons (.asg 14 false (.callF 66 (.cons (.var 0 4) (.cons (.var 0 5) .nil)))) .nil)) .nil)) (.cons (.asg 15 false (.callF 34 (.cons (.var 0 9) (.cons (.cst (.bool false)) .nil)))) (.cons (.asg 16 false (.ite (.boolE false (.cons (.cmp .is (.var 0 13) (.cst .none)) (.cons (.notE (.callF 9 (.cons (.var 0 13) .nil))) .nil))) (.lstE (.cons (.cst (.str [46,120])) (.cons (.cst (.str [46,121])) .nil))) (.callF 13 (.cons (.var 0 13) .nil)))) (.cons (.ifS (.boolE false (.cons (.cmp .ne (.callB .len (.cons (.var 0 16) .nil)) (.cst (.int (2)))) (.cons (.cmp .isIn (.cst .none) (.var 0 16)) .nil))) (.cons (.raiseS (.cst (.str [39,115,117,102,102,105,120,101,115,39,32,109,117,115,116,32,98,101,32,97,32,99,104,97,114,97,99,116,101,114,32,118,101,99,116,111,114,32,111,102,32,108,101,110,103,116,104,32,50]))) .nil) .nil) (.cons (.ret false (.callF 65 (.cons (.var 0 4) (.cons (.var 0 5) (.cons (.var 0 14) (.cons (.callF 34 (.cons (.var 0 10) (.cons (.var 0 15) .nil))) (.cons (.callF 34 (.cons (.var 0 11) (.cons (.var 0 15) .nil))) (.cons (.var 0 16) (.cons (.callF 34 (.cons (.var 0 12) (.cons (.cst (.bool true)) .nil))) .nil))))))))) .nil)))))))))⟩
noncomputable def Qd:FC:=⟨1,1,[],(.cons (.ret true (.slcRev (.comp (.callB .abs (.cons (.var 0 0) .nil)) (.slcTo (.var 0 0) (.cst (.int (50)))) .nil 0))) .nil)⟩
noncomputable def Sz:FC:=⟨2,2,[],(.cons (.ifS (.cmp .eq (.var 0 0) (.lstE .nil)) (.cons (.ret false (.cst (.int (0)))) .nil) .nil) (.cons (.ret false (.bin .mod (.meth .pop (.var 0 0) .nil) (.var 0 1))) .nil))⟩
noncomputable def Sx:FC:=⟨2,5,[],(.cons (.asg 2 true (.lstE .nil)) (.cons (.forS 3 (.callB .range (.cons (.var 0 1) .nil)) (.cons (.asg 4 false (.callF 72 (.cons (.var 0 0) (.cons (.cst (.int (4))) .nil)))) (.cons (.expr (.meth .append (.var 0 2) (.cons (.tupE (.cons (.ite (.cmp .eq (.var 0 4) (.cst (.int (3)))) (.cst .none) (.var 0 4)) (.cons (.sub (.cst (.str [109,110])) (.callF 72 (.cons (.var 0 0) (.cons (.cst (.int (2))) .nil)))) (.cons (.callF 72 (.cons (.var 0 0) (.cons (.cst (.int (50))) .nil))) .nil)))) .nil))) .nil))) (.cons (.ret false (.var 0 2)) .nil)))⟩
noncomputable def Qf:FC:=⟨2,3,[],(.cons (.asg 2 false (.lstE (.cons (.callC 0 (.cons (.cst (.str [105,110,116,101,103,101,114])) (.cons (.comp (.sub (.var 0 0) (.cst (.int (0)))) (.var 0 0) .nil 0) .nil))) (.cons (.callC 0 (.cons (.cst (.str [99,104,97,114,97,99,116,101,114])) (.cons (.comp (.sub (.var 0 0) (.cst (.int (1)))) (.var 0 0) .nil 0) .nil))) (.cons (.callC 0 (.cons (.cst (.str [105,110,116,101,103,101,114])) (.cons (.comp (.sub (.var 0 0) (.cst (.int (2)))) (.var 0 0) .nil 0) .nil))) .nil))))) (.cons (.ret false (.callF 37 (.cons (.var 0 2) (.cons (.var 0 1) (.cons (.callF 38 (.cons (.callB .len (.cons (.var 0 0) .nil)) .nil)) .nil))))) .nil))⟩
noncomputable def Uy:FC:=⟨4,8,[],(.cons (.asg 4 true (.lstE .nil)) (.cons (.forS 5 (.var 0 0) (.cons (.asg 7 false (.comp (.var 0 0) (.var 0 1) (.cons (.cmp .eq (.slcTo (.var 0 0) (.cst (.int (2)))) (.slcTo (.var 1 5) (.cst (.int (2))))) .nil) 0)) (.cons (.forS 6 (.var 0 7) (.cons (.expr (.meth .append (.var 0 4) (.cons (.bin .add (.var 0 5) (.tupE (.cons (.sub (.var 0 6) (.cst (.int (2)))) .nil))) .nil))) .nil)) (.cons (.ifS (.boolE true (.cons (.cmp .eq (.var 0 7) (.lstE .nil)) (.cons (.var 0 2) .nil))) (.cons (.expr (.meth .append (.var 0 4) (.cons (.bin .add (.var 0 5) (.tupE (.cons (.cst .none) .nil))) .nil))) .nil) .nil) .nil)))) (.cons (.forS 6 (.var 0 1) (.cons (.ifS (.boolE true (.cons (.var 0 3) (.cons (.cmp .notIn (.slcTo (.var 0 6) (.cst (.int (2)))) (.comp (.slcTo (.var 0 0) (.cst (.int (2)))) (.var 0 0) .nil 0)) .nil))) (.cons (.expr (.meth .append (.var 0 4) (.cons (.bin .add (.slcTo (.var 0 6) (.cst (.int (2)))) (.tupE (.cons (.cst .none) (.cons (.sub (.var 0 6) (.cst (.int (2)))) .nil)))) .nil))) .nil) .nil) .nil)) (.cons (.ret false (.var 0 4)) .nil))))⟩
noncomputable def Qe:FC:=⟨1,2,[],(.cons (.asg 1 false (.callB .len (.cons (.attr (.sub (.attr (.var 0 0) [97,116,116,114,115]) (.cst (.str [114,111,119,46,110,97,109,101,115]))) [105,116,101,109,115]) .nil))) (.cons (.ret false (.comp (.callB .tuple (.cons (.comp (.sub (.attr (.var 0 0) [105,116,101,109,115]) (.var 1 0)) (.attr (.var 1 0) [105,116,101,109,115]) .nil 0) .nil)) (.callB .range (.cons (.var 0 1) .nil)) .nil 0)) .nil))⟩
noncomputable def N6:FC:=⟨1,3,[],(.cons (.asg 1 true (.lstE .nil)) (.cons (.forS 2 (.var 0 0) (.cons (.expr (.meth .append (.var 0 1) (.cons (.bin .add (.lstE (.cons (.ite (.cmp .is (.sub (.var 0 2) (.cst (.int (0)))) (.cst .none)) (.negE (.cst (.int (1)))) (.sub (.var 0 2) (.cst (.int (0))))) (.cons (.sub (.var 0 2) (.cst (.int (1)))) .nil))) (.comp (.ite (.cmp .is (.var 0 0) (.cst .none)) (.negE (.cst (.int (1)))) (.var 0 0)) (.slcFrom (.var 0 2) (.cst (.int (2)))) .nil 0)) .nil))) .nil)) (.cons (.ret false (.callB .sorted (.cons (.var 0 1) .nil))) .nil)))⟩
noncomputable def Qc:FC:=⟨1,1,[],(.cons (.ret false (.callC 0 (.cons (.cst (.str [99,104,97,114,97,99,116,101,114])) (.cons (.var 0 0) .nil)))) .nil)⟩
noncomputable def Sy:FC:=⟨1,1,[],(.cons (.ret false (.callC 0 (.cons (.cst (.str [108,111,103,105,99,97,108])) (.cons (.lstE (.cons (.ite (.var 0 0) (.cst (.int (1))) (.cst (.int (0)))) .nil)) .nil)))) .nil)⟩
noncomputable def Et:FC:=⟨1,2,[],(.cons (.tryR (.callF 70 (.cons (.cst .none) (.cons (.var 0 0) (.cons (.cst .none) .nil))))) .nil)⟩
noncomputable def Sq:FC:=⟨1,21,[],(.cons (.asg 1 true (.callF 71 (.cons (.var 0 0) .nil))) (.cons (.asg 2 false (.callF 73 (.cons (.var 0 1) (.cons (.callF 72 (.cons (.var 0 1) (.cons (.cst (.int (5))) .nil))) .nil)))) (.cons (.asg 3 false (.callF 73 (.cons (.var 0 1) (.cons (.callF 72 (.cons (.var 0 1) (.cons (.cst (.int (5))) .nil))) .nil)))) (.cons (.asg 4 false (.cmp .eq (.callF 72 (.cons (.var 0 1) (.cons (.cst (.int (2))) .nil))) (.cst (.int (1))))) (.cons (.asg 5 false (.cmp .eq (.callF 72 (.cons (.var 0 1) (.cons (.cst (.int (2))) .nil))) (.cst (.int (1))))) (.cons (.asg 6 false (.callF 74 (.cons (.var 0 2) (.cons (.lstE (.cons (.cst (.str [107])) (.cons (.cst (.str [108])) (.cons (.cst (.str [112])) .nil)))) .nil)))) (.cons (.asg 7 false (.callF 74 (.cons (.var 0 3) (.cons (.lstE (.cons (.cst (.str [107])) (.cons (.cst (.str [108])) (.cons (.cst (.str [113])) .nil)))) .nil)))) (.cons (.asg 8 false (.callF 74 (.cons (.var 0 3) (.cons (.lstE (.cons (.cst (.str [107,107])) (.cons (.cst (.str [108,108])) (.cons (.cst (.str [113])) .nil)))) .nil)))) (.cons (.asg 9 false (.lstE (.cons (.tupE (.cons (.cst (.str [97,108,108,46,120])) (.cons (.callF 79 (.cons (.var 0 4) .nil)) .nil))) (.cons (.tupE (.cons (.cst (.str [97,108,108,46,121])) (.cons (.callF 79 (.cons (.var 0 5) .nil)) .nil))) .nil)))) (.cons (.asg 10 false (.callF 80 (.cons (.bin .add (.lstE (.cons (.tupE (.cons (.cst .none) (.cons (.var 0 6) .nil))) (.cons (.tupE (.cons (.cst .none) (.cons (.var 0 7) .nil))) .nil))) (.var 0 9)) .nil))) (.cons (.ifS (.cmp .ne (.attr (.sub (.attr (.var 0 10) [97,116,116,114,115]) (.cst (.str [110,97,109,101,115]))) [105,116,101,109,115]) (.lstE (.cons (.cst (.str [107])) (.cons (.cst (.str [108])) (.cons (.cst (.str [112])) (.cons (.cst (.str [113])) .nil)))))) (.cons (.ret false (.cst (.bool false))) .nil) .nil) (.cons (.asg 11 false (.callF 75 (.cons (.var 0 2) (.cons (.var 0 3) (.cons (.var 0 4) (.cons (.var 0 5) .nil)))))) (.cons (.ifS (.cmp .ne (.callF 77 (.cons (.callF 76 (.cons (.var 0 10) .nil)) .nil)) (.callF 77 (.cons (.var 0 11) .nil))) (.cons (.ret false (.cst (.bool false))) .nil) .nil) (.cons (.ifS (.cmp .ne (.attr (.sub (.attr (.var 0 10) [97,116,116,114,115]) (.cst (.str [114,111,119,46,110,97,109,101,115]))) [105,116,101,109,115]) (.callB .list (.cons (.callB .range (.cons (.cst (.int (1))) (.cons (.bin .add (.callB .len (.cons (.var 0 11) .nil)) (.cst (.int (1)))) .nil))) .nil))) (.cons (.ret false (.cst (.bool false))) .nil) .nil) (.cons (.asg 12 false (.callF 80 (.cons (.bin .add (.lstE (.cons (.tupE (.cons (.cst (.str [121])) (.cons (.var 0 7) .nil))) (.cons (.tupE (.cons (.cst (.str [120])) (.cons (.var 0 6) .nil))) (.cons (.tupE (.cons (.cst (.str [98,121])) (.cons (.callF 78 (.cons (.lstE (.cons (.cst (.str [107])) (.cons (.cst (.str [108])) .nil))) .nil)) .nil))) .nil)))) (.var 0 9)) .nil))) (.cons (.asg 13 false (.lstE (.cons (.tupE (.cons (.cst (.str [98,121,46,120])) (.cons (.callF 78 (.cons (.lstE (.cons (.cst (.str [107])) (.cons (.cst (.str [108])) .nil))) .nil)) .nil))) (.cons (.tupE (.cons (.cst (.str [98,121,46,121])) (.cons (.callF 78 (.cons (.lstE (.cons (.cst (.str [107,107])) (.cons (.cst (.str [108,108])) .nil))) .nil)) .nil))) .nil)))) (.cons (.asg 14 false (.callF 80 (.cons (.bin .add (.bin .add (.lstE (.cons (.tupE (.cons (.cst .none) (.cons (.var 0 6) .nil))) (.cons (.tupE (.cons (.cst .none) (.cons (.var 0 8) .nil))) .nil))) (.var 0 13)) (.var 0 9)) .nil))) (.cons (.forS 15 (.lstE (.cons (.var 0 12) (.cons (.var 0 14) .nil))) (.cons (.ifS (.boolE false (.cons (.cmp .ne (.callF 76 (.cons (.var 0 15) .nil)) (.callF 76 (.cons (.var 0 10) .nil))) (.cons (.cmp .ne (.attr (.sub (.attr (.var 0 15) [97,116,116,114,115]) (.cst (.str [110,97,109,101,115]))) [105,116,101,109,115]) (.lstE (.cons (.cst (.str [107])) (.cons (.cst (.str [108])) (.cons (.cst (.str [112])) (.cons (.cst (.str [113])) .nil)))))) .nil))) (.cons (.ret false (.cst (.bool false))) .nil) .nil) .nil)) (.cons (.asg 16 false (.callF 80 (.cons (.bin .add (.lstE (.cons (.tupE (.cons (.cst .none) (.cons (.var 0 6) .nil))) (.cons (.tupE (.cons (.cst .none) (.cons (.var 0 7) .nil))) (.cons (.tupE (.cons (.cst (.str [115,111,114,116])) (.cons (.callF 79 (.cons (.cst (.bool false)) .nil)) .nil))) .nil)))) (.var 0 9)) .nil))) (.cons (.ifS (.cmp .ne (.callF 77 (.cons (.callF 76 (.cons (.var 0 16) .nil)) .nil)) (.callF 77 (.cons (.var 0 11) .nil))) (.cons (.ret false (.cst (.bool false))) .nil) .nil) (.cons (.ifS (.cmp .eq (.var 0 4) (.var 0 5)) (.cons (.asg 17 false (.callF 80 (.cons (.lstE (.cons (.tupE (.cons (.cst .none) (.cons (.var 0 6) .nil))) (.cons (.tupE (.cons (.cst .none) (.cons (.var 0 7) .nil))) (.cons (.tupE (.cons (.cst (.str [97,108,108])) (.cons (.callF 79 (.cons (.var 0 4) .nil)) .nil))) .nil)))) .nil))) (.cons (.ifS (.cmp .ne (.callF 76 (.cons (.var 0 17) .nil)) (.callF 76 (.cons (.var 0 10) .nil))) (.cons (.ret false (.cst (.bool false))) .nil) .nil) .nil)) .nil) (.cons (.asg 18 false (.callF 74 (.cons (.var 0 3) (.cons (.lstE (.cons (.cst (.str [107])) (.cons (.cst (.str [108])) (.cons (.cst (.str [112])) .nil)))) .nil)))) (.cons (.asg 19 false (.callF 80 (.cons (.lstE (.cons (.tupE (.cons (.cst .none) (.cons (.var 0 6) .nil))) (.cons (.tupE (.cons (.cst .none) (.cons (.var 0 18) .nil))) (.cons (.tupE (.cons (.cst (.str [98,121])) (.cons (.callF 78 (.cons (.lstE (.cons (.cst (.str [107])) (.cons (.cst (.str [108])) .nil))) .nil)) .nil))) (.cons (.tupE (.cons (.cst (.str [115,117,102,102,105,120,101,115])) (.cons (.callF 78 (.cons (.lstE (.cons (.cst (.str [46,49])) (.cons (.cst (.str [43])) .nil))) .nil)) .nil))) .nil))))) .nil))) (.cons (.ifS (.cmp .ne (.attr (.sub (.attr (.var 0 19) [97,116,116,114,115]) (.cst (.str [110,97,109,101,115]))) [105,116,101,109,115]) (.lstE (.cons (.cst (.str [107])) (.cons (.cst (.str [108])) (.cons (.cst (.str [112,46,49])) (.cons (.cst (.str [112,43])) .nil)))))) (.cons (.ret false (.cst (.bool false))) .nil) .nil) (.cons (.ifS (.cmp .ne (.callF 80 (.cons (.lstE (.cons (.tupE (.cons (.cst .none) (.cons (.var 0 6) .nil))) (.cons (.tupE (.cons (.cst .none) (.cons (.var 0 8) .nil))) (.cons (.tupE (.cons (.cst (.str [98,121])) (.cons (.callF 78 (.cons (.lstE (.cons (.cst (.str [107])) .nil)) .nil)) .nil))) .nil)))) .nil)) (.cst (.str [39,98,121,39,32,109,117,115,116,32,115,112,101,99,105,102,121,32,97,32,117,110,105,113,117,101,108,121,32,118,97,108,105,100,32,99,111,108,117,109,110]))) (.cons (.ret false (.cst (.bool false))) .nil) .nil) (.cons (.asg 20 false (.lstE (.cons (.tupE (.cons (.cst (.str [98,121,46,120])) (.cons (.callF 78 (.cons (.lstE (.cons (.cst (.str [107])) .nil)) .nil)) .nil))) (.cons (.tupE (.cons (.cst (.str [98,121,46,121])) (.cons (.callF 78 (.cons (.lstE (.cons (.cst (.str [107,107])) (.cons (.cst (.str [108,108])) .nil))) .nil)) .nil))) .nil)))) (.cons (.ifS (.cmp .ne (.callF 80 (.cons (.bin .add (.lstE (.cons (.tupE (.cons (.cst .none) (.cons (.var 0 6) .nil))) (.cons (.tupE (.cons (.cst .none) (.cons (.var 0 8) .nil))) .nil))) (.var 0 20)) .nil)) (.cst (.str [39,98,121,46,120,39,32,97,110,100,32,39,98,121,46,121,39,32,115,112,101,99,105,102,121,32,100,105,102,102,101,114,101,110,116,32,110,117,109,98,101,114,115,32,111,102,32,99,111,108,117,109,110,115]))) (.cons (.ret false (.cst (.bool false))) .nil) .nil) (.cons (.ret false (.cmp .eq (.callF 80 (.cons (.lstE (.cons (.tupE (.cons (.cst .none) (.cons (.var 0 6) .nil))) (.cons (.tupE (.cons (.cst .none) (.cons (.callC 0 (.cons (.cst (.str [105,110,116,101,103,101,114])) (.cons (.lstE (.cons (.cst (.int (1))) .nil)) .nil))) .nil))) .nil))) .nil)) (.cst (.str [39,121,39,32,109,117,115,116,32,98,101,32,97,32,100,97,116,97,32,102,114,97,109,101])))) .nil))))))))))))))))))))))))))))⟩
noncomputable def Wf:List FC:=[Uv,Mh,Py,Qa,Bs,Yc,Sw,A26,Ss,Sv,A55,Uu,Q4,N2,Us,A27,Qb,Gk,Jg,H8,F7,F6,H9,Kb,N0,A25,A8z,Q5,N4,So,Ya,Jd,Px,Yd,Yb,Ut,Su,Sp,Q0,Q9,Mk,Q7,Y9,Q1,Q8,Ex,Jf,Ed,Fw,Q3,Q2,Uw,N3,Ur,Ka,N5,Uq,Ux,K9,N1,Mi,Q6,My,Uo,Mz,Fv,Mj,Je,Sr,Y8,Bm,Qd,Sz,Sx,Qf,Uy,Qe,N6,Qc,Sy,Et,Sq]
noncomputable def codes(n:Nat):Option FC:=Wf[n]?
noncomputable def pol:Pol:=⟨fun f=>f==72||f==73,fun c=>if c==0 then 4 else 17⟩
noncomputable def LAW:Nat:=81
end Mine.Internal
namespace Mine.Internal
open PySem PySem.W PyProof.Rows PySem.SeqAt PySem.MeetsSeq PySem.Calls
variable {W:Wd} {G:Gl} {K:Frag}
section
variable {R:Prop}
noncomputable def eObj(o:Option Obj)(k:Value→Data→Array (Option Value)→Bool):Bool:=match o with|some ⟨c,_,x,s⟩=>k c x s|none=>false
theorem Ls{o:Option Obj}{k:Value→Data→Array (Option Value)→Bool}(h:eObj o k=true)(f:∀c d x s,o=some ⟨c,d,x,s⟩→k c x s=true→R):R:=by
 induction o using Option.casesOn with
 |none=>exact nf h
 |some o=>obtain⟨c,d,x,s⟩:=o;exact f c d x s rfl h
end
noncomputable def A1q(d:Data)(k:FuncData→Bool):Bool:=match d with|.func x=>k x|_=>false
@[elab_as_elim] theorem Zx{d:Data}{k:FuncData→Bool}{R:Data→Prop}(h:A1q d k=true)(c:∀x,k x=true→R (.func x)):R d:=by induction d using PySem.Data.casesOn<;>first|exact c _ h|exact nf h
noncomputable def eCls(d:Data)(k:ClassData→Bool):Bool:=match d with|.cls x=>k x|_=>false
@[elab_as_elim] theorem A5s{d:Data}{k:ClassData→Bool}{R:Data→Prop}(h:eCls d k=true)(c:∀x,k x=true→R (.cls x)):R d:=by induction d using PySem.Data.casesOn<;>first|exact c _ h|exact nf h
noncomputable def eSeq(d:Data)(k:Array Value→Bool):Bool:=match d with|.seq x _=>k x|_=>false
@[elab_as_elim] theorem A9q{d:Data}{k:Array Value→Bool}{R:Data→Prop}(h:eSeq d k=true)(c:∀x n,k x=true→R (.seq x n)):R d:=by induction d using PySem.Data.casesOn<;>first|exact c _ _ h|exact nf h
noncomputable def eDic(d:Data)(k:Array DictEntry→Bool):Bool:=match d with|.dict x _=>k x|_=>false
@[elab_as_elim] theorem A5q{d:Data}{k:Array DictEntry→Bool}{R:Data→Prop}(h:eDic d k=true)(c:∀x n,k x=true→R (.dict x n)):R d:=by induction d using PySem.Data.casesOn<;>first|exact c _ _ h|exact nf h
noncomputable def A1s(d:FuncBody)(k:List Stmt→Bool):Bool:=match d with|.stmts x=>k x|_=>false
@[elab_as_elim] theorem A01{d:FuncBody}{k:List Stmt→Bool}{R:FuncBody→Prop}(h:A1s d k=true)(c:∀x,k x=true→R (.stmts x)):R d:=by cases d<;>first|exact c _ h|exact nf h
noncomputable def pvv(x:PV)(v:Value):Bool:=match x with
 |.none=>(match v with|.none=>true|_=>false)
 |.bool a=>(match v with|.bool b=>a==b|_=>false)
 |.int a=>(match v with|.int b _=>a==b|_=>false)
 |.str a=>(match v with|.str b _=>b==sv a|_=>false)
 |_=>false
theorem A7n{P:GM}{x:PV}{v:Value}(h:pvv x v=true):Rv W P x v:=by
 induction x using PV.casesOn<;>first|exact nf h|skip
 ·induction v using PySem.Value.casesOn<;>first|exact .none|exact nf h
 ·induction v using PySem.Value.casesOn<;>first|exact nf h|skip
  rw[beqE h];exact .bool _
 ·induction v using PySem.Value.casesOn<;>first|exact nf h|skip
  rw[beqE h];exact .int _ _
 ·induction v using PySem.Value.casesOn<;>first|exact nf h|skip
  rw[beqE h];exact .str _ _
noncomputable def pvvs:List PV→List Value→Bool
 |[],vs=>vs.isEmpty
 |x::xs,vs=>Du vs fun v vs=>pvv x v&&pvvs xs vs
theorem A3l{P:GM}{xs:List PV}{vs:List Value}(h:pvvs xs vs=true):Rvs W P xs vs:=by
 induction xs generalizing vs with
 |nil=>rw[List.isEmpty_iff.mp h];exact .nil
 |cons x xs ih=>exact Fm h fun v vs=>Ae fun h1 h2=>.cons (A7n h1) (ih h2)
inductive DflOk(W:Wd)(dfl:List PV)(dV:Value):Prop
 |mk (ds:List Value) (r:∀P,Rvs W P dfl ds) (e:(dV=.none∧ds=[])∨∃t o k,dV=.ref t∧W.base.get? t=some o∧o.data=.seq ds.toArray k):DflOk W dfl dV
noncomputable def dfCk(K:Frag)(dfl:List PV):Value→Bool
 |.none=>dfl.isEmpty
 |.ref t=>eObj (K.lookup t) fun J x J=>eSeq x fun ds=>pvvs dfl ds.toList
 |_=>false
theorem A51(X:K.In W.base){dfl:List PV}{dV:Value}(h:dfCk K dfl dV=true):DflOk W dfl dV:=by
 induction dV using PySem.Value.casesOn<;>first|exact nf h|skip
 ·rw[List.isEmpty_iff.mp h];exact⟨[],fun J=>.nil,.inl ⟨rfl,rfl⟩⟩
 ·refine Ls h fun c d x s e h=>?_
  revert e
  exact A9q h fun ds k h e=>⟨ds.toList,fun P=>A3l h,.inr ⟨_,_,k,rfl,X _ _ e,by rw[Array.toArray_toList]⟩⟩
noncomputable def D9(params:Arguments)(sc:Scope):List Str:=params.args.map (·.arg)++(sc.names.filter fun e=>(e.2==.local||e.2==.cell)&& !(params.args.map (·.arg)).contains e.1).map (·.1)
noncomputable def scCk(c:FC)(params:Arguments)(sc:Scope)(k:Bool):Bool:=
 params.posonlyargs.isEmpty&&(params.kwonlyargs.isEmpty&&(params.vararg.isNone&&(params.kwarg.isNone&&(decide (params.args.map (·.arg)=(D9 params sc).take c.np)&&(decide ((D9 params sc).length=c.nv)&&(decide (D9 params sc).Nodup&&(Nat.ble c.np c.nv&&
 (decide (sc.kind=.function)&&(!sc.isCoroutine&&(!sc.isGenerator&&(decide (sc.names.map (·.1)).Nodup&&((D9 params sc).all (fun x=>decide (sc.names.lookup x=some .local∨sc.names.lookup x=some .cell))&&(sc.names.all (fun e=>decide (e.2=.cell→e.1∈D9 params sc))&&k)))))))))))))
noncomputable def fdCk(K:Frag)(G:Gl)(c:FC)(fd:FuncData):Bool:=match fd with
 |⟨_,qual,params,body,sc,gl,cl,dV,_,_,_,_,cdv,_,bl⟩=>A1s body fun body=>eNil cl (decide (gl=mainGlobals)&&(decide (bl=builtinsNs)&&(codeIn K cdv qual&&scCk c params sc (ckSs G ⟨sc.names,Df (D9 params sc)⟩ c.body body&&dfCk K c.dfl dV))))
theorem A5v{α:Type}{o:Option α}(h:o.isNone=true):o=none:=Option.isNone_iff_eq_none.mp h
theorem nilE{α:Type}{l:List α}(h:l.isEmpty=true):l=[]:=List.isEmpty_iff.mp h
theorem notE{b:Bool}(h:(!b)=true):b=false:=by cases b;rfl;exact nf h
inductive FnRecX(W:Wd)(G:Gl)(a:Addr)(c:FC)(fo:Obj)(fd:FuncData):Prop
 |mk (name qual:Str) (params:Arguments) (body:List Stmt) (sc:Scope) (dV kV doc pm:Value) (an:Option Addr) (cdv ct:Value) (ds:List Value) (e:fd=⟨name,qual,params,.stmts body,sc,mainGlobals,[],dV,kV,doc,pm,an,cdv,ct,builtinsNs⟩)
  (R:FnRec W G a c fo name qual params body sc dV kV doc pm an cdv ct (D9 params sc) ds):FnRecX W G a c fo fd
theorem A1b(X:K.In W.base){a:Addr}{fo:Obj}{c:FC}{fd:FuncData}(e:K.lookup a=some fo)(e2:fo.data=.func fd)(h:fdCk K G c fd=true):FnRecX W G a c fo fd:=by
 obtain⟨name,qual,params,body,sc,gl,cl,dV,kV,doc,pm,an,cdv,ct,bl⟩:=fd
 revert e2
 refine A01 h fun body h=>Jr h<|A97 fun g1 g2 h3 s1 s2 s3 s4 s5 s6 s7 s8 s9 s10 s11 s12 s13 s14=>Ae fun h5 h6 e2=>?_
 cases decE g1
 cases decE g2
 obtain⟨ds,d1,d2⟩:=A51 X h6
 exact⟨_,_,_,_,_,_,_,_,_,_,_,_,ds,rfl,X _ _ e,e2,codeRec_of X h3,nilE s1,nilE s2,A5v s3,A5v s4,decE s5,decE s6,decE s7,Nat.le_of_ble_eq_true s8,decE s9,notE s10,notE s11,decE s12,fun x hx=>decE (List.all_eq_true.mp s13 x hx),fun x hx=>decE (List.all_eq_true.mp s14 _ hx) rfl,h5,d1,d2⟩
noncomputable def fnCk(K:Frag)(G:Gl)(a:Addr)(c:FC):Bool:=eObj (K.lookup a) fun J x J=>A1q x fun fd=>fdCk K G c fd
theorem Aai(X:K.In W.base){a:Addr}{c:FC}(h:fnCk K G a c=true):FnOK W G a c:=by
 refine Ls h fun cl d x s e h=>?_
 revert e
 refine Zx h fun fd h e=>?_
 obtain⟨name,qual,params,body,sc,dV,kV,doc,pm,an,cdv,ct,ds,rfl,R⟩:=A1b (G:=G) X e rfl h
 exact⟨_,_,_,_,_,_,_,_,_,_,_,_,_,_,ds,R⟩
noncomputable def Aah(e:DictEntry):Bool:=match e.key with
 |.str _ _=>true
 |_=>false
theorem A4e{v:Value}(h:(match v with|.str _ _=>true|_=>false)=true):∃n t,v=.str n t:=by
 induction v using PySem.Value.casesOn<;>first|exact⟨_,_,rfl⟩|exact nf h
noncomputable def A04(K:Frag)(a:Addr)(k:Array DictEntry→Bool):Bool:=eObj (K.lookup a) fun J x J=>eDic x fun es=>es.toList.all Aah&&k es
theorem Ro{R:Prop}(X:K.In W.base){a:Addr}{k:Array DictEntry→Bool}(h:A04 K a k=true)(c:∀es,W.base.Ns a (nsFind es)→k es=true→R):R:=by
 refine Ls h fun cl d x s e h=>?_
 revert e
 refine A5q h fun es ep=>Ae fun q h e=>c es ⟨_,_,ep,X _ _ e,rfl,fun x hx=>?_,fun J=>rfl⟩ h
 exact A4e (List.all_eq_true.mp q x (Array.mem_toList_iff.mpr hx))
noncomputable def glCk(K:Frag)(gt:List (Str×Value)):Bool:=eObj (K.lookup mainGlobals) fun J x J=>eDic x fun es=>
 gt.all fun e=>decide (nsFind es e.1=some e.2∨(nsFind es e.1=none∧bootBuiltins e.1=some e.2))&&(decide (e.1≠"__name__")&& !(e.1==("__debug__":Str)))
theorem M0{β:Type}{x:Str}{v:β}:∀{l:List (Str×β)},l.lookup x=some v→(x,v)∈l
 |(a,b)::l,h=>by
  rw[List.lookup_cons]at h
  cases q:x==a with
  |true=>rw[q]at h;cases h;rw[beq_iff_eq.mp q];exact List.mem_cons_self ..
  |false=>rw[q]at h;exact List.mem_cons_of_mem _ (M0 h)
theorem A65(X:K.In W.base){gt:List (Str×Value)}(h:glCk K gt=true){mg mb:Str→Option Value}(h1:W.base.Ns mainGlobals mg)(h2:∀x:Str,x≠"__name__"→mb x=bootBuiltins x):
 ∀x v,gt.lookup x=some v→(mg x=some v∨(mg x=none∧mb x=some v))∧(x==("__debug__":Str))=false:=by
 refine Ls h fun cl d x s e h=>?_
 revert e
 refine A5q h fun es ep h e=>?_
 intro x v hx
 refine Ae (fun q1=>Ae fun q2 q3=>⟨?_,notE q3⟩) (List.all_eq_true.mp h _ (M0 hx))
 obtain⟨o,es',ep',ho,hd,_,hm⟩:=h1
 cases(X _ _ e).symm.trans ho
 cases hd
 rw[←hm,h2 x (decE q2)]
 exact decE q1
noncomputable def fnsL:List Addr:=[45,108,101,191,301,329,336,343,350,357,364,371,378,390,395,402,414,428,435,442,449,456,463,468,500,507,513,520,527,576,590,597,623,628,642,649,656,661,668,675,680,687,694,701,708,715,722,729,736,743,748,753,760,768,780,785,790,797,804,809,823,830,837,844,849,855,860,867,874,881,888,893,900,907,912,917,922,927,934,941,948,955]
noncomputable def glL:List (String×Value):=[("from_int",.ref 45),("special_text",.ref 108),("whole_text",.ref 101),("exact_text",.ref 191),("integer",.ref 329),("character",.ref 336),("length",.ref 343),("is_vector",.ref 350),("is_atomic",.ref 357),("share",.ref 364),("get_attr",.ref 371),("label_text",.ref 378),("label_texts",.ref 390),("names_of",.ref 395),("dim_of",.ref 402),("class_attr",.ref 414),("match_names",.ref 500),("needed",.ref 507),("take",.ref 513),("kind_order",.ref 520),("common_kind",.ref 527),("to_double",.ref 576),("item_as",.ref 590),("is_atomic_kind",.ref 597),("with_names",.ref 623),("as_kind",.ref 628),("is_true",.ref 642),("is_frame",.ref 649),("is_factor",.ref 656),("new_frame",.ref 661),("plain_rows",.ref 668),("frame_rows",.ref 675),("column_names",.ref 680),("kept_attrs",.ref 687),("lacking",.ref 694),("pick_items",.ref 701),("is_lacking",.ref 708),("compare_items",.ref 715),("check_sortable",.ref 722),("compare_places",.ref 729),("compare_keys",.ref 736),("merge_runs",.ref 743),("merge_sort",.ref 748),("each_key",.ref 753),("kept_places",.ref 760),("order_by",.ref 768),("joined_column",.ref 780),("column_keys",.ref 785),("row_keys",.ref 790),("check_by",.ref 797),("matched_pairs",.ref 804),("lone_places",.ref 809),("merged_pairs",.ref 823),("key_column",.ref 830),("other_names",.ref 837),("sort_key",.ref 844),("merge_order",.ref 849),("merge_frames",.ref 855),("common_names",.ref 860),("frame_argument",.ref 867),("key_names",.ref 874),("renamed",.ref 881),("b_merge",.ref 888),("_law_purse",.ref 893),("_law_coin",.ref 900),("_law_rows",.ref 907),("_law_frame",.ref 912),("_law_due",.ref 917),("_law_lines",.ref 922),("_law_sorted",.ref 927),("_law_texts",.ref 934),("_law_flag",.ref 941),("_law_asked",.ref 948),("law",.ref 955),("Vector",.ref 311),("Matching",.ref 471),("Refusal",.ref 263),("len",.builtin "len"),("range",.type "range"),("abs",.builtin "abs"),("list",.type "list"),("tuple",.type "tuple"),("str",.type "str"),("isinstance",.builtin "isinstance"),("max",.builtin "max"),("sorted",.builtin "sorted")]
noncomputable def GL:Gl where
 gt:=glL.map fun e=>(Str.ofString e.1,e.2)
 attrs:=[[102,114,97,109,101],[97,114,103,115],[107,105,110,100],[105,116,101,109,115],[97,116,116,114,115],[115,104,97,114,101,100],[108,111,111,115,101],[117,115,101,100],[112,108,97,99,101,115],[102,111,114,109,97,108,115],[116,97,103,115]]
 nf:=82
 fns:=fun f=>fnsL.getD f 0
 cls:=fun c=>if c==0 then 311 else if c==1 then 471 else 263
 meths:=[([101,120,97,99,116],18),([112,97,114,116,105,97,108],19),([112,97,114,116,105,97,108,95,111,102],20),([112,111,115,105,116,105,111,110,97,108],21),([105,115,95,102,114,101,101],22),([114,101,115,116],23)]
 pol:=pol
end Mine.Internal
namespace Mine.Internal
open PySem PySem.W PyProof.Rows PySem.SeqAt PySem.MeetsSeq PySem.Calls
variable {W:Wd} {K:Frag}
noncomputable def bmE:List Value:=[.type "Exception",.type "BaseException",.type "object"]
noncomputable def A0z(fd:FuncData)(k:Str→Str→Bool):Bool:=match fd with
 |⟨_,_,_,body,_,_,_,_,_,_,_,_,_,_,_⟩=>A1s body fun b=>eOne b fun st=>O6 st fun t x=>O5 t fun o a J=>Id o fun slf=>Id x fun msg=>a==sv cMsg&&k slf msg
noncomputable def sl6(sl:Array (Option Value)):Bool:=Du sl.toList fun J l=>Du l fun J l=>Du l fun J l=>Du l fun J l=>Du l fun v l=>decide (v=some (.builtin "Exception.__new__"))&&eOne l fun J=>true
theorem A79{sl:Array (Option Value)}(h:sl6 sl=true):∃k0 k1 k2 k3 k5,sl= #[k0,k1,k2,k3,some (.builtin "Exception.__new__"),k5]:=by
 obtain⟨l⟩:=sl
 refine Fm (o:=l) h fun k0 l h=>Fm h fun k1 l h=>Fm h fun k2 l h=>Fm h fun k3 l h=>Fm h fun v l=>Ae fun e h=>E7 h fun k5 J=>?_
 rw[decE e]
 exact⟨k0,k1,k2,k3,k5,rfl⟩
noncomputable def A5i(K:Frag):Bool:=eObj (K.lookup 263) fun c1 x sl=>eCls x fun cd=>eObj (K.lookup 260) fun c3 y J=>A1q y fun fd=>A0z fd fun slf msg=>
 decide (c1=.type "type")&&(decide (cd.mro=.ref 263::.ref 243::bmE)&&(!cd.hasDel&&(cd.hasDict&&(sl6 sl&&(eObj (K.lookup 243) (fun J z J=>eCls z fun cd2=>A04 K cd2.ns fun es=>decide (nsFind es "__init__"=none))&&(A04 K cd.ns (fun es=>decide (nsFind es "__init__"=some (.ref 260)))&&(decide (c3=.type "function")&&(decide (D9 fd.params fd.scope=[slf,msg])&&(decide (slf≠msg)&&(Bu slf&&(Bu msg&&(fdCk K GL A6f fd&&(decide (findIn K (.ref 263) "__setattr__"=some (some (.builtin "object.__setattr__")))&&(decide (takerIn K 263 (sv cMsg)=some none)&&((clsIn K 263).any (fun cd'=>decide (cd'.mro=.ref 263::.ref 243::bmE)&&cd'.hasDict))))))))))))))))
noncomputable def A5c(K:Frag):Bool:=
 decide (findIn K (.ref 263) "__getattribute__"=some (some (.builtin "BaseException.__getattribute__")))&&decide (findIn K (.ref 263) "__getattr__"=some none)&&decide (mroIn K 263 (.type "BaseException")=some true)&&decide (findIn K (.ref 263) (sv cMsg)=some none)&&hasDictIn K 263
noncomputable def atCk(K:Frag):Bool:=GL.attrs.all fun a=>E0 K 311 (sv a)&&E0 K 471 (sv a)&&F9 K 311 (sv a)&&F9 K 471 (sv a)
noncomputable def meCk(K:Frag):Bool:=GL.meths.all fun e=>plainGet K 471 (sv e.1)&&decide (findIn K (.ref 471) (sv e.1)=some (some (.ref (fnsL.getD e.2 0))))&&decide (typeIn K (.ref (fnsL.getD e.2 0))=some (.type "function"))&&Nat.blt e.2 82
noncomputable def mkCk(K:Frag)(C i:Nat):Bool:=makesIn K C&&decide (findIn K (.ref C) "__init__"=some (some (.ref i)))&&decide (typeIn K (.ref i)=some (.type "function"))
noncomputable def kpCk(K:Frag):Bool:=fnsL.all (fun a=>keepIn K (.ref a))&&keepIn K (.ref 311)&&keepIn K (.ref 471)&&keepIn K (.ref 263)&&isIn K (.ref 311) 311
noncomputable def Ma(K:Frag)(lo hi:Nat):Bool:=((List.range (hi-lo)).map (·+lo)).all fun f=>match Wf[f]? with
 |some c=>fnCk K GL (fnsL.getD f 0) c
 |none=>true
theorem Ja(X:K.In W.base){lo hi f:Nat}{c:FC}(h:Ma K lo hi=true)(h1:lo≤f)(h2:f<hi)(hc:codes f=some c):FnOK W GL (fnsL.getD f 0) c:=by
 have:=List.all_eq_true.mp h f (List.mem_map.mpr ⟨f-lo,List.mem_range.mpr (Nat.sub_lt_sub_right h1 h2),Nat.sub_add_cancel h1⟩)
 have hc':Wf[f]?=some c:=hc
 rw[hc']at this
 exact Aai X this
theorem anyO{α:Type}{o:Option α}{p:α→Bool}(h:o.any p=true):∃a,o=some a∧p a=true:=by
 induction o using Option.casesOn with
 |none=>exact nf h
 |some a=>exact⟨a,rfl,h⟩
theorem U1{fd:FuncData}{k:Str→Str→Bool}(h:A0z fd k=true):∃slf p1 p2 msg p3 p4,fd.body=.stmts [.Assign [.Attribute (.Name slf p1) (sv cMsg) p2] (.Name msg p3) p4]∧k slf msg=true:=by
 obtain⟨_,_,_,body,_,_,_,_,_,_,_,_,_,_,_⟩:=fd
 refine A01 h fun b h=>E7 h fun st h=>Lu h fun t x p4 h=>Iz h fun o a p2 h=>Dy h fun slf p1 h=>Dy h fun msg p3=>Ae fun q0 q=>?_
 cases beqE q0
 exact⟨slf,p1,p2,msg,p3,p4,rfl,q⟩
theorem Xx{c1:Value}{dd:Option Addr}{cd:ClassData}{sl:Array (Option Value)}{C:Addr}{bm:List Value}(h1:c1=.type "type")(h2:cd.mro=.ref C::bm)(h3:cd.hasDel=false)(h5:sl6 sl=true):
 ∃k0 k1 k2 k3 k5,some ({cls:=c1,dict:=dd,data:=.cls cd,slots:=sl}:Obj)=some (excClassObj cd.name cd.qualname C cd.ns cd.bases bm cd.hasDict cd.slotNames cd.subclasses cd.abstract cd.collection dd k0 k1 k2 k3 k5 "Exception.__new__"):=by
 obtain⟨k0,k1,k2,k3,k5,rfl⟩:=A79 h5
 cases cd;cases h1;cases h2;cases h3
 exact⟨k0,k1,k2,k3,k5,rfl⟩
theorem A7g(X:K.In W.base)(hK:W.K=K)(hc:W.cls 2=263)(h:A5i K=true):RefOK W GL:=by
 refine(let GG:=_;(?_:GG))
 refine Ls h fun c1 dd x sl e1 h=>?_
 revert e1
 refine A5s h fun cd h e1=>?_
 refine Ls h fun c3 dd3 y sl3 e3 h=>?_
 revert e3
 refine Zx h fun fd h e3=>?_
 obtain⟨slf,p1,p2,msg,p3,p4,hb,h⟩:=U1 h
 refine Ae (fun q1=>A98 fun h2 h3 h4 h5 h6 h7 h8 m1 m2 m3 m4 h10 h11 h12 h13=>?_) h
 obtain⟨name,qual,params,body,sc,dV,kV,doc,pm,an,cdv,ct,ds,rfl,R⟩:=A1b (G:=GL) X e3 rfl h10
 cases hb
 obtain⟨k0,k1,k2,k3,k5,eo⟩:=Xx (C:=263) (dd:=dd) (decE q1) (decE h2) (notE h3) h5
 obtain⟨cd',n5,n6⟩:=anyO h13
 obtain⟨n6,n7⟩:=band n6
 have n6:=decE n6
 refine Ls h6 fun J J z J e2 h6=>?_
 revert e2
 refine A5s h6 fun cd2 h6 e2=>Ro X h6 fun es2 n3 n4=>Ro X h7 fun es n1 n2=>?_
 exact⟨260,_,name,qual,params,sc,dV,kV,doc,pm,an,cdv,ct,ds,slf,msg,p1,p2,p3,p4,cd.name,cd.qualname,cd.ns,cd.bases,.ref 243::bmE,bmE,cd.hasDict,cd.slotNames,cd.subclasses,cd.abstract,cd.collection,dd,k0,k1,k2,k3,k5,"Exception","Exception.__new__","Exception.__init__",nsFind es,cd',PySem.F.excBase_Exception,.own (X _ _ e2) n3 (decE n4) .base,hc▸(X _ _ e1).trans eo,n1,decE n2,(decE m1:D9 params sc=[slf,msg])▸R,decE h8,decE m2,m3,m4,by rw[hc,hK];exact decE h11,by rw[hc,hK];exact n5,by rw[n6];rfl,by rw[n6];rfl,by rw[n6];exact fun x=>rfl,by rw[hc,hK];exact decE h12,n7⟩
end Mine.Internal
namespace Mine.Internal
structure SO{α:Type}(lt:α→α→Bool):Prop where
 irr:∀a,lt a a=false
 trans:∀a b c,lt a b=true→lt b c=true→lt a c=true
 total:∀a b,lt a b=false→lt b a=false→a=b
theorem SO.neg{α:Type}{lt:α→α→Bool}(h:SO lt)(a b c:α)(q:lt a c=true):lt a b=true∨lt b c=true:=by
 cases e:lt a b with
 |true=>exact .inl rfl
 |false=>
  cases f:lt b a with
  |true=>exact .inr (h.trans _ _ _ f q)
  |false=>cases h.total _ _ e f;exact .inr q
noncomputable def lexB{α β:Type}[DecidableEq α](la:α→α→Bool)(lb:β→β→Bool)(x y:α×β):Bool:=if x.1=y.1 then lb x.2 y.2 else la x.1 y.1
theorem SO.lex{α β:Type}[DecidableEq α]{la:α→α→Bool}{lb:β→β→Bool}(ha:SO la)(hb:SO lb):SO (lexB la lb)where
 irr:=fun a=>by unfold lexB;rw[if_pos rfl];exact hb.irr _
 trans:=fun a b c h1 h2=>by
  unfold lexB at*
  by_cases e1:a.1=b.1
  ·rw[if_pos e1]at h1
   by_cases e2:b.1=c.1
   ·rw[if_pos e2]at h2;rw[if_pos (e1.trans e2)];exact hb.trans _ _ _ h1 h2
   ·rw[if_neg e2]at h2;rw[e1,if_neg e2];exact h2
  ·rw[if_neg e1]at h1
   by_cases e2:b.1=c.1
   ·rw[←e2,if_neg e1];exact h1
   ·rw[if_neg e2]at h2
    have h3:=ha.trans _ _ _ h1 h2
    by_cases e3:a.1=c.1
    ·rw[e3,ha.irr]at h3;cases h3
    ·rw[if_neg e3];exact h3
 total:=fun a b h1 h2=>by
  unfold lexB at*
  by_cases e:a.1=b.1
  ·rw[if_pos e]at h1;rw[if_pos e.symm]at h2
   exact Prod.ext e (hb.total _ _ h1 h2)
  ·rw[if_neg e]at h1;rw[if_neg (Ne.symm e)]at h2
   exact absurd (ha.total _ _ h1 h2) e
theorem Hh:SO (fun a b:Int=>decide (a<b))where
 irr:=fun a=>decide_eq_false (Int.lt_irrefl a)
 trans:=fun a b c h1 h2=>decide_eq_true (Int.lt_trans (of_decide_eq_true h1) (of_decide_eq_true h2))
 total:=fun a b h1 h2=>Int.le_antisymm (Int.not_lt.mp (of_decide_eq_false h2)) (Int.not_lt.mp (of_decide_eq_false h1))
theorem soCs:SO ltCs where
 irr:=fun a=>decide_eq_false (List.lt_irrefl a)
 trans:=fun a b c h1 h2=>decide_eq_true (List.lt_trans (of_decide_eq_true h1) (of_decide_eq_true h2))
 total:=fun a b h1 h2=>List.le_antisymm (List.not_lt.mp (of_decide_eq_false h2)) (List.not_lt.mp (of_decide_eq_false h1))
noncomputable def R4.tp(r:R4):Int×Cs×Int×Int:=(r.a,r.s,r.b,r.c)
theorem R4.so:SO R4.lt where
 irr:=fun a=>(Hh.lex (soCs.lex (Hh.lex Hh))).irr a.tp
 trans:=fun a b c=>(Hh.lex (soCs.lex (Hh.lex Hh))).trans a.tp b.tp c.tp
 total:=fun a b h1 h2=>by
  have:=(Hh.lex (soCs.lex (Hh.lex Hh))).total a.tp b.tp h1 h2
  obtain⟨a1,a2,a3,a4⟩:=a
  obtain⟨b1,b2,b3,b4⟩:=b
  cases this;rfl
noncomputable abbrev Srt(l:List R4):Prop:=l.Pairwise fun a b=>R4.lt b a=false
theorem A0y{x y:R4}{ys:List R4}:insR x (y::ys)=if R4.lt y x then y::insR x ys else x::y::ys:=rfl
theorem Nw(x:R4)(l):(insR x l).Perm (x::l):=by
 induction l with
 |nil=>
  exact .refl _
 |cons y ys ih=>
  rw[A0y]
  split
  ·exact((ih).cons y).trans (.swap x y ys)
  ·exact .refl _
theorem A0x(x:R4)(l):Srt l→Srt (insR x l):=by
 induction l with
 |nil=>
  intro _
  exact List.pairwise_singleton _ _
 |cons y ys ih=>
  intro h
  obtain⟨h1,h2⟩:=List.pairwise_cons.mp h
  rw[A0y]
  cases e:R4.lt y x with
  |true=>
   rw[if_pos rfl]
   refine List.pairwise_cons.mpr ⟨fun z hz=>?_,ih h2⟩
   rcases List.mem_cons.mp ((Nw x ys).mem_iff.mp hz)with rfl|hz
   ·cases q:R4.lt z y with
    |false=>rfl
    |true=>have:=R4.so.trans _ _ _ e q;rw[R4.so.irr]at this;cases this
   ·exact h1 z hz
  |false=>
   rw[if_neg (by intro q;cases q)]
   refine List.pairwise_cons.mpr ⟨fun z hz=>?_,h⟩
   rcases List.mem_cons.mp hz with rfl|hz
   ·exact e
   ·cases q:R4.lt z x with
    |false=>rfl
    |true=>
     rcases R4.so.neg z y x q with q|q
     ·rw[h1 z hz]at q;cases q
     ·rw[e]at q;cases q
theorem Gw(l):(Do l).Perm l:=by
 induction l with
 |nil=>
  exact .refl _
 |cons x xs ih=>
  exact(Nw x _).trans ((ih).cons x)
theorem Iu(l):Srt (Do l):=by
 induction l with
 |nil=>
  exact .nil
 |cons x xs ih=>
  exact A0x x _ (ih)
theorem Yz{a b:List R4}(p:a.Perm b)(ha:Srt a)(hb:Srt b):a=b:=p.eq_of_pairwise (fun x y J J h1 h2=>R4.so.total _ _ h2 h1) ha hb
theorem Z0{a b:List R4}(p:a.Perm b):Do a=Do b:=Yz (((Gw a).trans p).trans (Gw b).symm) (Iu a) (Iu b)
end Mine.Internal
namespace Mine.Internal
open PySem PySem.W PyProof.Rows
section
variable {α β:Type} {key:Nat→R4} {N:Nat}
noncomputable abbrev lk(key:Nat→R4)(i j:Nat):Bool:=R4.lt (key i) (key j)
noncomputable def sat(key:Nat→R4)(N:Nat)(Q:α→Prop):KasT α→Prop
 |.ret a=>Q a
 |.ask i j k=>i<N∧j<N∧sat key N Q (k (lk key i j))
theorem E5{f:α→KasT β}{Q:β→Prop}:∀{t:KasT α},sat key N (fun a=>sat key N Q (f a)) t→sat key N Q (t.bind f)
 |.ret _,h=>h
 |.ask _ _ _,h=>⟨h.1,h.2.1,E5 h.2.2⟩
theorem Z4{cmp:Nat→Nat→(Bool→Shared→Prop)→Shared→Prop}{s:Shared}(hc:∀i j C,i<N→j<N→C (lk key i j) s→cmp i j C s){Q:α→Prop}:∀{t:KasT α},sat key N Q t→t.kasWp cmp (fun a s'=>s'=s∧Q a) s
 |.ret _,h=>⟨rfl,h⟩
 |.ask _ _ _,h=>hc _ _ _ h.1 h.2.1 (Z4 hc h.2.2)
noncomputable abbrev le4(a b:R4):Prop:=R4.lt b a=false
theorem le4.refl(a:R4):le4 a a:=R4.so.irr a
theorem le4.trans{a b c:R4}(h1:le4 a b)(h2:le4 b c):le4 a c:=by
 cases e:R4.lt c a with
 |false=>exact e
 |true=>rcases R4.so.neg c b a e with q|q
        ·exact nomatch h2.symm.trans q
        ·exact nomatch h1.symm.trans q
theorem W0{a b:R4}(h:R4.lt a b=true):le4 a b:=by
 cases e:R4.lt b a with
 |false=>exact e
 |true=>exact nomatch (R4.so.irr a).symm.trans (R4.so.trans _ _ _ h e)
noncomputable def PN(N:Nat)(p:Array Nat):Prop:=p.size=N∧∀i,i<N→p.getD i 0<N
noncomputable abbrev ky4(key:Nat→R4)(p:Array Nat)(i:Nat):R4:=key (p.getD i 0)
noncomputable abbrev Up(key:Nat→R4)(p:Array Nat)(k:Nat):Prop:=∀i j,i≤j→j<k→le4 (ky4 key p i) (ky4 key p j)
noncomputable abbrev Dn(key:Nat→R4)(p:Array Nat)(k:Nat):Prop:=∀i j,i≤j→j<k→le4 (ky4 key p j) (ky4 key p i)
theorem ad0(n f:Nat):n+1+f=n+(f+1):=by rw[Nat.add_assoc,Nat.add_comm 1]
theorem ad1{n f N:Nat}(h:n+(f+1)≤N):n<N:=Nat.lt_of_lt_of_le (Nat.lt_add_of_pos_right (Nat.succ_pos f)) h
theorem ad2{n f N:Nat}(h:n+(f+1)≤N):n+1+f≤N:=Nat.le_trans (Nat.le_of_eq (ad0 n f)) h
theorem ad3{n N:Nat}(h:n<N):n-1<N:=Nat.lt_of_le_of_lt (Nat.sub_le n 1) h
theorem ad4{j k l:Nat}(h:l<j)(hj:j≤k):j-1<k:=Nat.lt_of_lt_of_le (Nat.sub_lt (Nat.zero_lt_of_lt h) Nat.one_pos) hj
theorem ad5{i n:Nat}(a:n≤i)(b:i<n+1):i=n:=Nat.le_antisymm (Nat.le_of_lt_succ b) a
theorem ad6{i j:Nat}(a:i≤j)(b:j<1):i=j:=Nat.le_antisymm a (Nat.le_trans (Nat.le_of_lt_succ b) (Nat.zero_le i))
theorem ad7{n N:Nat}(h:n≤N):n+(N-n)≤N:=Nat.le_of_eq (Nat.add_sub_cancel' h)
theorem ad8{i j k:Nat}(a:i≤k)(b:k<j):i≤i+j-1-k∧i+j-1-k<j:=by
 obtain⟨t,rfl⟩:=Nat.exists_eq_add_of_lt b
 have e:i+(k+t+1)-1-k=i+t:=by show i+(k+t)-k=_;rw[Nat.add_left_comm,Nat.add_sub_cancel_left]
 rw[e]
 exact⟨Nat.le_add_right i t,Nat.lt_succ_of_le (Nat.add_le_add_right a t)⟩
theorem ad9{n i:Nat}(h:1≤n):0+n-1-i<n:=by
 rw[Nat.zero_add]
 exact Nat.lt_of_le_of_lt (Nat.sub_le _ _) (Nat.sub_lt h Nat.one_pos)
theorem A80{l r:Nat}(h:l<r):l≤(l+r)/2∧(l+r)/2<r:=⟨(Nat.le_div_iff_mul_le Nat.two_pos).mpr (by rw[Nat.mul_two];exact Nat.add_le_add_left (Nat.le_of_lt h) l),Nat.div_lt_of_lt_mul (by rw[Nat.two_mul];exact Nat.add_lt_add_right h r)⟩
theorem Aa3{l r m f:Nat}(h:r-l≤f+1)(q:l≤m):r-(m+1)≤f:=Nat.sub_le_of_le_add (Nat.le_trans (Nat.le_add_of_sub_le h) (by rw[Nat.add_assoc,Nat.add_comm 1];exact Nat.add_le_add_left (Nat.succ_le_succ q) f))
noncomputable def Prm(N:Nat)(p:Array Nat):Prop:=p.toList.Perm (List.range N)
theorem Prm.pn{p:Array Nat}(h:Prm N p):PN N p:=by
 have hz:p.size=N:=by have:=h.length_eq;simpa using this
 refine⟨hz,fun i hi=>?_⟩
 have hi':i<p.size:=Nat.lt_of_lt_of_eq hi hz.symm
 have e:p.getD i 0=p[i]:=by simp[Array.getD,hi']
 rw[e]
 exact List.mem_range.mp (h.mem_iff.mp (by simp))
theorem I7{p:Array Nat}{i:Nat}:p.getD i 0=(p[i]?).getD 0:=by simp
theorem Prm.rev{p:Array Nat}(h:Prm N p)(i j:Nat):Prm N (kas_rev p i j):=(mirror_perm p i j _).toList.trans h
theorem Prm.bub{p:Array Nat}(h:Prm N p)(i j:Nat):Prm N (bubble p i j):=(bubble_perm p i j).toList.trans h
theorem Tx{p:Array Nat}{i j:Nat}(hj:j≤p.size)(k:Nat):ky4 key (kas_rev p i j) k=if i≤k∧k<j then ky4 key p (i+j-1-k)else ky4 key p k:=by
 show key (Array.getD _ k 0)=_
 rw[I7,kas_rev,getElem?_mirror_all hj]
 split<;>rw[←I7]
theorem A0j{p:Array Nat}{src d:Nat}(hs:src<p.size)(hd:d≤src)(k:Nat):ky4 key (bubble p src d) k=if k=src-d then ky4 key p src else if src-d<k∧k≤src then ky4 key p (k-1)else ky4 key p k:=by
 show key (Array.getD _ k 0)=_
 rw[I7,getElem?_bubble hs d hd]
 split
 ·rw[←I7]
 ·split<;>rw[←I7]
theorem Up.ext{p:Array Nat}{n:Nat}(h:Up key p n)(h0:1≤n)(hl:le4 (ky4 key p (n-1)) (ky4 key p n)):Up key p (n+1):=fun i j hij hj=>by
 rcases Nat.lt_or_ge j n with q|q
 ·exact h i j hij q
 ·have e:j=n:=ad5 q hj
  subst e
  rcases Nat.lt_or_ge i j with q|q
  ·exact(h i (j-1) (Nat.le_sub_one_of_lt q) (ad4 q (Nat.le_refl _))).trans hl
  ·have e:i=j:=Nat.le_antisymm hij q
   rw[e];exact le4.refl _
theorem Dn.ext{p:Array Nat}{n:Nat}(h:Dn key p n)(h0:1≤n)(hl:le4 (ky4 key p n) (ky4 key p (n-1))):Dn key p (n+1):=fun i j hij hj=>by
 rcases Nat.lt_or_ge j n with q|q
 ·exact h i j hij q
 ·have e:j=n:=ad5 q hj
  subst e
  rcases Nat.lt_or_ge i j with q|q
  ·exact le4.trans hl (h i (j-1) (Nat.le_sub_one_of_lt q) (ad4 q (Nat.le_refl _)))
  ·have e:i=j:=Nat.le_antisymm hij q
   rw[e];exact le4.refl _
theorem A2m{p:Array Nat}(hp:PN N p){Q:Nat→Prop}(f:Nat):∀(n:Nat),1≤n→n+f≤N→Up key p n→(∀m,n≤m→m≤n+f→Up key p m→(m<n+f→lk key (p.getD m 0) (p.getD (m-1) 0)=true)→Q m)→sat key N Q (kas_asc p f n):=by
 induction f with
 |zero=>
  intro n _ _ hs k
  exact k n (Nat.le_refl _) (Nat.le_refl _) hs (fun h=>absurd h (Nat.lt_irrefl _))
 |succ f ih=>
  intro n h1 hN hs k
  refine⟨hp.2 _ (ad1 hN),hp.2 _ (ad3 (ad1 hN)),?_⟩
  cases e:lk key (p.getD n 0) (p.getD (n-1) 0)with
  |true=>exact k n (Nat.le_refl _) (Nat.le_add_right n (f+1)) hs fun J=>e
  |false=>exact ih (n+1) (Nat.le_add_left 1 n) (ad2 hN) (hs.ext h1 e) fun m a b c d=>k m (Nat.le_of_succ_le a) (Nat.le_trans b (Nat.le_of_eq (ad0 n f))) c fun h=>d (Nat.lt_of_lt_of_eq h (ad0 n f).symm)
theorem Lk{p:Array Nat}{i j:Nat}(hj:j≤p.size)(h:∀k,i≤k→k<j→ky4 key p k=ky4 key p (j-1))(k:Nat):ky4 key (kas_rev p i j) k=ky4 key p k:=by
 rw[Tx hj]
 split
 ·rename_i q;rw[h _ (ad8 q.1 q.2).1 (ad8 q.1 q.2).2,h k q.1 q.2]
 ·rfl
theorem A52{Q:Array Nat×Nat×Nat→Prop}(f:Nat):∀(p:Array Nat) (n q:Nat),Prm N p→1≤n→n+f≤N→q+1≤n→Dn key p n→(∀i,n-(q+1)≤i→i<n→ky4 key p i=ky4 key p (n-1))→
 (∀p' n' q',Prm N p'→n≤n'→n'≤n+f→q'+1≤n'→Dn key p' n'→(∀i,n'-(q'+1)≤i→i<n'→ky4 key p' i=ky4 key p' (n'-1))→Q (p',n',q'))→sat key N Q (kas_desc f p n q):=by
 induction f with
 |zero=>
  intro p n q hP _ _ hq hd hr k
  exact k p n q hP (Nat.le_refl _) (Nat.le_refl _) hq hd hr
 |succ f ih=>
  intro p n q hP h1 hN hq hd hr k
  have hp:=hP.pn
  have k':∀p' n' q',Prm N p'→n+1≤n'→n'≤n+1+f→q'+1≤n'→Dn key p' n'→(∀i,n'-(q'+1)≤i→i<n'→ky4 key p' i=ky4 key p' (n'-1))→Q (p',n',q'):=fun p' n' q' a b c=>k p' n' q' a (Nat.le_of_succ_le b) (Nat.le_trans c (Nat.le_of_eq (ad0 n f)))
  refine⟨hp.2 _ (ad1 hN),hp.2 _ (ad3 (ad1 hN)),?_⟩
  cases e:lk key (p.getD n 0) (p.getD (n-1) 0)with
  |true=>
   have hd':Dn key p (n+1):=hd.ext h1 (W0 e)
   have one:∀(p':Array Nat) i,n+1-(0+1)≤i→i<n+1→ky4 key p' i=ky4 key p' (n+1-1):=fun p' i a b=>by rw[show i=n+1-1 from ad5 a b]
   show sat key N Q (if q>0 then _ else _)
   split
   ·have same:=Lk (key:=key) (p:=p) (i:=n-(q+1)) (j:=n) (by rw[hp.1];exact Nat.le_of_lt (ad1 hN)) hr
    refine ih _ (n+1) 0 (hP.rev _ _) (Nat.le_add_left 1 n) (ad2 hN) (Nat.le_add_left 1 n) (fun i j hij hj=>?_) (one _) k'
    rw[same,same];exact hd' i j hij hj
   ·exact ih p (n+1) 0 hP (Nat.le_add_left 1 n) (ad2 hN) (Nat.le_add_left 1 n) hd' (one _) k'
  |false=>
   refine⟨hp.2 _ (ad3 (ad1 hN)),hp.2 _ (ad1 hN),?_⟩
   cases e2:lk key (p.getD (n-1) 0) (p.getD n 0)with
   |true=>exact k p n q hP (Nat.le_refl _) (Nat.le_add_right n (f+1)) hq hd hr
   |false=>
    have eq:ky4 key p n=ky4 key p (n-1):=R4.so.total _ _ e e2
    refine ih p (n+1) (q+1) hP (Nat.le_add_left 1 n) (ad2 hN) (Nat.succ_le_succ hq) (hd.ext h1 (by rw[eq];exact le4.refl _)) (fun i a b=>?_) k'
    show _=ky4 key p n
    rcases Nat.lt_or_ge i n with x|x
    ·rw[hr i (Nat.le_trans (Nat.le_of_eq (Nat.succ_sub_succ n (q+1)).symm) a) x,eq]
    ·rw[ad5 x b]
theorem Ve{p:Array Nat}{n:Nat}(hP:Prm N p)(h1:1≤n)(hn:n≤N)(hd:Dn key p n):sat key N (fun r=>Prm N r.2∧1≤r.1∧r.1≤N∧Up key r.2 r.1) (kas_tail3 n N p):=by
 have hP':=hP.rev 0 n
 refine E5 (A2m hP'.pn _ _ h1 (ad7 hn) (fun i j hij hj=>?_) fun m a b c J=>⟨hP',Nat.le_trans h1 a,Nat.le_trans b (ad7 hn),c⟩)
 rw[Tx (by rw[hP.pn.1];exact hn),Tx (by rw[hP.pn.1];exact hn),if_pos ⟨Nat.zero_le _,Nat.lt_of_le_of_lt hij hj⟩,if_pos ⟨Nat.zero_le _,hj⟩]
 exact hd _ _ (Nat.sub_le_sub_left hij _) (ad9 h1)
theorem Sj{p:Array Nat}{n:Nat}(hP:Prm N p)(h1:1≤n)(hn:n+1≤N)(hd:Dn key p (n+1)):sat key N (fun r=>Prm N r.2∧1≤r.1∧r.1≤N∧Up key r.2 r.1) (kas_descPart n N p):=by
 refine E5 (A52 _ p (n+1) 0 hP (Nat.le_add_left 1 n) (ad7 hn) (Nat.le_add_left 1 n) hd (fun i a b=>by rw[show i=n+1-1 from ad5 a b]) fun p' n' q' a b c d e g=>?_)
 show sat key N _ (if q'>0 then kas_tail3 n' N (kas_rev p' (n'-(q'+1)) n')else kas_tail3 n' N p')
 have h3:n'≤N:=Nat.le_trans c (ad7 hn)
 have h4:1≤n':=Nat.le_trans (Nat.le_add_left 1 n) b
 split
 ·have same:=Lk (key:=key) (p:=p') (i:=n'-(q'+1)) (j:=n') (by rw[a.pn.1];exact h3) g
  exact Ve (a.rev _ _) h4 h3 fun i j hij hj=>by rw[same,same];exact e i j hij hj
 ·exact Ve a h4 h3 e
theorem A1u{p:Array Nat}(hP:Prm N p)(h1:1≤N):sat key N (fun r=>Prm N r.2∧1≤r.1∧r.1≤N∧Up key r.2 r.1) (kas_count N p):=by
 have hp:=hP.pn
 refine E5 (A2m hp _ 1 (Nat.le_refl _) (ad7 h1) (fun i j hij hj=>by rw[ad6 hij hj];exact le4.refl _) fun n a b c d=>?_)
 have nN:n≤N:=Nat.le_trans b (ad7 h1)
 show sat key N _ (if(n==N)=true then _ else _)
 split
 ·exact⟨hP,a,nN,c⟩
 ·rename_i ne
  have nN':n<N:=Nat.lt_of_le_of_ne nN fun e=>ne (by rw[e];exact beq_self_eq_true N)
  have lt:=d (Nat.lt_of_lt_of_eq nN' (Nat.add_sub_cancel' h1).symm)
  show sat key N _ (if n>1 then _ else _)
  split
  ·refine⟨hp.2 _ h1,hp.2 _ (ad3 nN'),?_⟩
   cases e:lk key (p.getD 0 0) (p.getD (n-1) 0)with
   |true=>exact⟨hP,a,nN,c⟩
   |false=>
    have all:∀k,0≤k→k<n→ky4 key p k=ky4 key p (n-1):=fun k J hk=>R4.so.total _ _ (le4.trans e (c 0 k (Nat.zero_le _) hk)) (c k (n-1) (Nat.le_sub_one_of_lt hk) (ad4 a (Nat.le_refl _)))
    have same:=Lk (key:=key) (p:=p) (i:=0) (j:=n) (by rw[hp.1];exact nN) all
    refine Sj (hP.rev _ _) a nN' (Dn.ext (fun i j hij hj=>?_) a ?_)
    ·rw[same,same,all i (Nat.zero_le _) (Nat.lt_of_le_of_lt hij hj),all j (Nat.zero_le _) hj];exact le4.refl _
    ·rw[same,same];exact W0 lt
  ·rename_i q
   have e:n=1:=Nat.le_antisymm (Nat.not_lt.mp q) a
   subst e
   exact Sj hP a nN' (Dn.ext (fun i j hij hj=>by rw[ad6 hij hj];exact le4.refl _) a (W0 lt))
theorem Zo{p:Array Nat}(hp:PN N p){k:Nat}(hk:k<N)(hs:Up key p k){Q:Nat→Prop}(kq:∀l,l≤k→(∀i,i<l→le4 (ky4 key p i) (ky4 key p k))→(∀i,l≤i→i<k→R4.lt (ky4 key p k) (ky4 key p i)=true)→Q l)(f:Nat):∀(l r:Nat),l≤r→r≤k→r-l≤f→(∀i,i<l→le4 (ky4 key p i) (ky4 key p k))→(∀i,r≤i→i<k→R4.lt (ky4 key p k) (ky4 key p i)=true)→sat key N Q (kas_place p k f l r):=by
 induction f with
 |zero=>
  intro l r h1 h2 h3 a b
  exact kq l (Nat.le_trans h1 h2) a fun i hi=>b i (Nat.le_trans (Nat.le_of_sub_eq_zero (Nat.le_zero.mp h3)) hi)
 |succ f ih=>
  intro l r h1 h2 h3 a b
  show sat key N Q (if l≥r then _ else _)
  split
  ·rename_i q
   exact kq l (Nat.le_trans h1 h2) a fun i hi=>b i (Nat.le_trans q hi)
  ·rename_i q
   have m1:=A80 (Nat.not_le.mp q)
   have m2:=Nat.lt_of_lt_of_le m1.2 h2
   refine⟨hp.2 _ hk,hp.2 _ (Nat.lt_trans m2 hk),?_⟩
   cases e:lk key (p.getD k 0) (p.getD ((l+r)/2) 0)with
   |true=>
    refine ih l ((l+r)/2) m1.1 (Nat.le_of_lt m2) (Nat.le_of_lt_succ (Nat.lt_of_lt_of_le (Nat.sub_lt_sub_right m1.1 m1.2) h3)) a fun i x y=>?_
    cases q:R4.lt (ky4 key p k) (ky4 key p i)with
    |true=>rfl
    |false=>exact(le4.trans (hs _ _ x y) q).symm.trans e
   |false=>exact ih ((l+r)/2+1) r m1.2 h2 (Aa3 h3 m1.1) (fun i x=>le4.trans (hs i _ (Nat.le_of_lt_succ x) m2) e) b
theorem A57{Q:Array Nat→Prop}(f:Nat):∀(p:Array Nat) (k:Nat),Prm N p→k+f≤N→Up key p k→(∀p',Prm N p'→Up key p' (k+f)→Q p')→sat key N Q (kas_bin f p k):=by
 induction f with
 |zero=>
  intro p k hP _ hs kq
  exact kq p hP hs
 |succ f ih=>
  intro p k hP hN hs kq
  have hp:=hP.pn
  refine E5 (Zo hp (ad1 hN) hs (fun l hl a b=>?_) k 0 k (Nat.zero_le _) (Nat.le_refl _) (Nat.le_refl _) (fun i h=>absurd h (Nat.not_lt_zero _)) (fun i h h'=>absurd h' (Nat.not_lt.mpr h)))
  refine ih _ (k+1) (hP.bub _ _) (ad2 hN) (fun i j hij hj=>?_) fun p' x y=>kq p' x (by rw[←ad0 k f];exact y)
  have kz:k<p.size:=Nat.lt_of_lt_of_eq (ad1 hN) hp.1.symm
  have jk:=Nat.le_of_lt_succ hj
  rw[A0j kz (Nat.sub_le k l),A0j kz (Nat.sub_le k l),Nat.sub_sub_self hl]
  have lek:∀i,l≤i→i<k→le4 (ky4 key p k) (ky4 key p i):=fun i x y=>W0 (b i x y)
  by_cases i1:i=l
  ·rw[if_pos i1]
   by_cases j1:j=l
   ·rw[if_pos j1];exact le4.refl _
   ·have lj:l<j:=Nat.lt_of_le_of_ne (i1▸hij) (Ne.symm j1)
    rw[if_neg j1,if_pos ⟨lj,jk⟩];exact lek _ (Nat.le_sub_one_of_lt lj) (ad4 lj jk)
  ·rw[if_neg i1]
   by_cases i2:l<i
   ·have lj:=Nat.lt_of_lt_of_le i2 hij
    rw[if_pos ⟨i2,Nat.le_trans hij jk⟩,if_neg (Nat.ne_of_gt lj),if_pos ⟨lj,jk⟩];exact hs _ _ (Nat.sub_le_sub_right hij 1) (ad4 lj jk)
   ·rw[if_neg (fun h=>i2 h.1)]
    by_cases j1:j=l
    ·rw[if_pos j1];exact a i (Nat.lt_of_le_of_ne (j1▸hij) i1)
    ·rw[if_neg j1]
     split
     ·rename_i q
      exact hs _ _ (Nat.le_sub_one_of_lt (Nat.lt_trans (Nat.lt_of_le_of_ne (Nat.not_lt.mp i2) i1) q.1)) (ad4 q.1 jk)
     ·rename_i q
      exact hs _ _ hij (Nat.lt_of_lt_of_le (Nat.lt_of_le_of_ne (Nat.not_lt.mp fun x=>q ⟨x,jk⟩) j1) hl)
theorem A3b(h1:1≤N):sat key N (fun p=>Prm N p∧Up key p N) (kas_sort N):=by
 have hP:Prm N (List.toArray (List.range N)):=.refl _
 refine E5 ?_
 have mono:∀{Q Q':Nat×Array Nat→Prop} (t:KasT (Nat×Array Nat)),(∀a,Q a→Q' a)→sat key N Q t→sat key N Q' t:=by
  intro Q Q' t hq
  induction t with
  |ret a=>exact hq a
  |ask i j k ih=>exact fun h=>⟨h.1,h.2.1,ih _ h.2.2⟩
 refine mono _ (fun r h=>?_) (A1u hP h1)
 obtain⟨a,b,c,d⟩:=h
 show sat key N _ (if r.1<N then _ else _)
 have e:max r.1 1=r.1:=Nat.max_eq_left b
 split
 ·rw[e];exact A57 _ _ _ a (ad7 c) d fun p' x y=>⟨x,by rw[Nat.add_sub_cancel' c]at y;exact y⟩
 ·rename_i q
  exact⟨a,by rw[Nat.le_antisymm (Nat.not_lt.mp q) c];exact d⟩
end
end Mine.Internal
namespace Mine.Internal
open PySem PySem.W PyProof.Rows PySem.SeqAt PySem.MeetsSeq PySem.MeetsSeq2 PySem.MeetsSeq3 PySem.Calls
open AutoSeq1 (wpAny_loadPart')
noncomputable def LtAt(A:Around)(s:Shared)(x y:Value)(b:Bool):Prop:=
 ∀(prog:Program) (w:World) (E:Value→Shared→Prop) (Q:Value→Shared→Prop),Q (.bool b) s→wpAny (model prog w) A (richCompare .Lt x y) Q E s
noncomputable def lexf(e l:Nat→Bool):Nat→Nat→Bool
 |0,_=>false
 |k+1,i=>if e i then lexf e l k (i+1)else l i
theorem A45(l b:Addr)(items items2:Array Value)(n n2:Nat)(hsz:items.size=items2.size)(e lt:Nat→Bool)(k:Nat):
 ∀i:Nat,items.size-i=k→Meets (Builtin.«list.__eq__.loop» ⟨[.ref l,.ref b,rawInt i,rawInt 0],[]⟩)
  (fun A R s=>s.heap.get? l=some {cls:=.type "list",dict:=none,data:=.seq items n,slots:= #[]}∧s.heap.get? b=some {cls:=.type "list",dict:=none,data:=.seq items2 n2,slots:= #[]}∧
   (∀j (h1:j<items.size) (h2:j<items2.size),EqAt A.in1 s items[j] items2[j] (e j)∧(e j=false→LtAt A.in1 s items[j] items2[j] (lt j)))∧
   R (.ok (.ret (.bool (lexf e lt k i)))) s):=by
 induction k with
 |zero=>
  intro i hk prog w A R s h
  obtain⟨hp,g,d,tk,os⟩:=s;obtain⟨hl,hb,he,h⟩:=h
  wp_walk using wpAny_loadPart' hl,wpAny_loadPart' hb
  have hi1:items[((i:Nat):Int).toNat]?=none:=Array.getElem?_eq_none (Nat.le_of_sub_eq_zero hk)
  have hi2:items2[((i:Nat):Int).toNat]?=none:=Array.getElem?_eq_none (hsz▸Nat.le_of_sub_eq_zero hk)
  rw[hi1,hi2]
  wp_walk using wpAny_loadPart' hl,wpAny_loadPart' hb
  show R (.ok (.ret (.bool (decide (items.size<items2.size))))) _
  rw[hsz,decide_eq_false (Nat.lt_irrefl _)]
  exact h
 |succ k ih=>
  intro i hk prog w A R s h
  obtain⟨hp,g,d,tk,os⟩:=s;obtain⟨hl,hb,he,h⟩:=h
  wp_walk using wpAny_loadPart' hl,wpAny_loadPart' hb
  have hlt:i<items.size:=Nat.lt_of_sub_eq_succ hk
  have hlt2:i<items2.size:=hsz▸hlt
  have hi1:items[((i:Nat):Int).toNat]?=some items[i]:=Array.getElem?_eq_getElem hlt
  have hi2:items2[((i:Nat):Int).toNat]?=some items2[i]:=Array.getElem?_eq_getElem hlt2
  have hc:((i:Int)+1)=((i+1:Nat):Int):=by push_cast;rfl
  rw[hi1,hi2]
  refine wpAny_bind ((he i hlt hlt2).1 prog w _ _ ?_)
  have h:R (.ok (.ret (.bool (if e i then lexf e lt k (i+1)else lt i)))) _:=h
  cases hb':e i with
  |true=>
   rw[hb']at h
   wp_walk
   rw[hc]
   exact⟨plainId_quiet plain_eq_loop _,codeAny_builtin entry_eq_loop (by
    rw[Around.under_plainId plain_eq_loop _]
    exact ih (i+1) ((Nat.sub_succ ..).trans (congrArg Nat.pred hk)) prog w A R _ ⟨hl,hb,he,h⟩)⟩
  |false=>
   rw[hb']at h
   wp_walk using wpAny_loadPart' hl,wpAny_loadPart' hb
   rw[hi1,hi2]
   refine wpAny_bind ((he i hlt hlt2).2 hb' prog w _ _ ?_)
   wp_walk
   exact h
theorem A4a(l b:Addr)(items items2:Array Value)(n n2:Nat)(hsz:items.size=items2.size)(e lt:Nat→Bool):
 Meets (Builtin.«list.__lt__» ⟨[.ref l,.ref b],[]⟩)
  (fun A R s=>s.heap.get? l=some {cls:=.type "list",dict:=none,data:=.seq items n,slots:= #[]}∧s.heap.get? b=some {cls:=.type "list",dict:=none,data:=.seq items2 n2,slots:= #[]}∧
   (∀j (h1:j<items.size) (h2:j<items2.size),EqAt A.in1 s items[j] items2[j] (e j)∧(e j=false→LtAt A.in1 s items[j] items2[j] (lt j)))∧
   R (.ok (.ret (.bool (lexf e lt items.size 0)))) s):=by
 intro prog w A R s h
 obtain⟨hp,g,d,tk,os⟩:=s;obtain⟨hl,hb,he,h⟩:=h
 have f3:=AutoSeq1.sub_list_list
 wp_walk using wpAny_loadPart' hl,wpAny_loadPart' hb
 exact⟨plainId_quiet plain_eq_loop _,codeAny_builtin entry_eq_loop (by
  rw[Around.under_plainId plain_eq_loop _]
  exact A45 l b items items2 n n2 hsz e lt _ 0 rfl prog w A R _ ⟨hl,hb,he,h⟩)⟩
end Mine.Internal
namespace Mine.Internal
open PySem PySem.W PyProof.Rows PySem.SeqAt PySem.MeetsSeq PySem.Calls
variable {prog:Program} {w:World} {A:Around} {E:Value→Shared→Prop} {s:Shared} {W:Wd} {P:GM}
noncomputable def K0(h:Heap)(v:Value)(r:R4):Prop:=∃b n t1 t2 t3 t4,v=.ref b∧h.get? b=some (lob [.int r.a t1,.str (sv r.s) t2,.int r.b t3,.int r.c t4] n)
theorem K0.keep{h h':Heap}{v:Value}{r:R4}(k:∀b o,h.get? b=some o→v=.ref b→h'.get? b=some o)(x:K0 h v r):K0 h' v r:=by
 obtain⟨b,n,t1,t2,t3,t4,e,q⟩:=x;exact⟨b,n,t1,t2,t3,t4,e,k _ _ q e⟩
noncomputable def eqj(x y:R4):Nat→Bool
 |0=>decide (x.a=y.a)
 |1=>decide (x.s=y.s)
 |2=>decide (x.b=y.b)
 |_=>decide (x.c=y.c)
noncomputable def ltj(x y:R4):Nat→Bool
 |0=>decide (x.a<y.a)
 |1=>ltCs x.s y.s
 |2=>decide (x.b<y.b)
 |_=>decide (x.c<y.c)
theorem A4b(x y:R4):lexf (eqj x y) (ltj x y) 4 0=R4.lt x y:=by
 show(if decide (x.a=y.a)=true then(if decide (x.s=y.s)=true then(if decide (x.b=y.b)=true then(if decide (x.c=y.c)=true then false else decide (x.c<y.c))else decide (x.b<y.b))else ltCs x.s y.s)else decide (x.a<y.a))=_
 have e:(if decide (x.c=y.c)=true then false else decide (x.c<y.c))=decide (x.c<y.c):=by
  split
  ·rename_i h;rw[of_decide_eq_true h];exact(decide_eq_false (Int.lt_irrefl _)).symm
  ·rfl
 rw[e]
 simp -iota only[decide_eq_true_eq]
 rfl
theorem Pg{i j:Int}{t u:Tok}:LtAt A s (.int i t) (.int j u) (decide (i<j)):=fun J J J J h=>PySem.P.lt_int h
theorem A46{a b:Cs}{t u:Tok}:LtAt A s (.str (sv a) t) (.str (sv b) u) (ltCs a b):=fun J J J J h=>PySem.P.lt_str h
theorem Pn{i j:Int}{t u:Tok}:EqAt A s (.int i t) (.int j u) (decide (i=j)):=by
 have:=EqAt.int_int (A:=A) (s:=s) i t j u
 rwa[show(i==j)=decide (i=j) by rw[Bool.eq_iff_iff];simp -iota]at this
theorem A4z{a b:Cs}{t u:Tok}:EqAt A s (.str (sv a) t) (.str (sv b) u) (decide (a=b)):=by
 have:=EqAt.str_str (A:=A) (s:=s) (sv a) t (sv b) u
 rwa[show(sv a==sv b)=decide (a=b) by rw[Bool.eq_iff_iff];simp -iota [Ir]]at this
@[elab_as_elim] theorem four{R:Nat→Prop}(a:R 0)(b:R 1)(c:R 2)(d:R 3)(j:Nat)(h:j<4):R j:=
 match j,h with|0,_=>a|1,_=>b|2,_=>c|3,_=>d
theorem A44{v u:Value}{x y:R4}{Q:Bool→Shared→Prop}(hu:A.units<cLine)(hx:K0 s.heap v x)(hy:K0 s.heap u y)(h:Q (R4.lt x y) s):wpAny (model prog w) A (keyLt' oneType' v u) Q E s:=by
 obtain⟨b,n,t1,t2,t3,t4,rfl,e1⟩:=hx
 obtain⟨c,m,u1,u2,u3,u4,rfl,e2⟩:=hy
 rw[keyLt'_oneType,oneLt'_eq]
 simp -iota only[if_true]
 refine wpAny_bind (wpAny_cRoomFor hu ?_)
 refine wpAny_bind (wpAny_callSpecialIfBound?_slot (show s.TypeIs (.ref b) "list" from⟨_,e1,rfl⟩) PySem.F.slot_list_lt ?_)
 refine call_meets PySem.F.slot_list_lt ⟨_,e1,rfl⟩ PySem.F.entry_list_lt (PySem.F.args_list_lt_2 _ _) (A4a b c #[.int x.a t1,.str (sv x.s) t2,.int x.b t3,.int x.c t4] #[.int y.a u1,.str (sv y.s) u2,.int y.b u3,.int y.c u4] n m rfl (eqj x y) (ltj x y)) ⟨e1,e2,fun j h1 h2=>?_,?_⟩
 ·have h4:j<4:=h1
  revert h1 h2
  exact four (fun J J=>⟨Pn,fun J=>Pg⟩) (fun J J=>⟨A4z,fun J=>A46⟩) (fun J J=>⟨Pn,fun J=>Pg⟩) (fun J J=>⟨Pn,fun J=>Pg⟩) j h4
 ·rw[show(#[Value.int x.a t1,.str (sv x.s) t2,.int x.b t3,.int x.c t4]:Array Value).size=4 from rfl,A4b]
  exact wpAny_truthy_bool h
end Mine.Internal
namespace Mine.Internal
open PySem PySem.W PyProof.Rows PySem.SeqAt PySem.MeetsSeq PySem.Calls
variable {prog:Program} {w:World} {A:Around} {E:Value→Shared→Prop} {s:Shared} {W:Wd} {P:GM}
noncomputable def rkey(rows:List R4)(i:Nat):R4:=(rows[i]?).getD ⟨0,[],0,0⟩
noncomputable def A6j(rows:List R4)(vs out:List Value):Prop:=∃p:Array Nat,Prm vs.length p∧Up (rkey rows) p vs.length∧out=p.toList.map fun i=>vs.getD i .none
theorem A0d(vs:List Value):((List.range vs.length).map fun i=>vs.getD i Value.none)=vs:=by
 apply List.ext_getElem
 ·simp
 ·intro i h1 h2;simp at h1;simp[h1]
set_option backward.match.sparseCases true in
theorem Ts{a:Addr}{n:Nat}{vs:List Value}{rows:List R4}{Pp:PySem.Fin→Shared→Prop}(hu:A.units<cLine)(ho:s.heap.get? a=some (seqObj "list" vs.toArray n))
 (hr:∀h':Heap,(∀b o,b≠a→s.heap.get? b=some o→h'.get? b=some o)→∀i,i<vs.length→K0 h' (vs.getD i .none) (rkey rows i)) (h64:vs.length<64)
 (h:∀out,A6j rows vs out→Pp (.done (.ret .none)) {s with heap:=sortedHeap s.heap a vs out.toArray}):
 wpAny (model prog w) A (Builtin.«list.sort» ⟨[.ref a],[]⟩) Pp E s:=by
 have ha:a<s.heap.objs.size:=Heap.lt_size ho
 obtain⟨e1,ho1⟩:∃e1,(s.heap.update a (Obj.mapSeq fun J=>(#[]:Array Value))).get? a=some (seqObj "list" #[] e1):=⟨_,get?_update_seq ho fun J=> #[]⟩
 have ho6:(((s.heap.update a (Obj.mapSeq fun J=>(#[]:Array Value))).push (seqObj "tuple" vs.toArray 0)).push (seqObj "list" #[] 0)).get? a=some (seqObj "list" #[] e1):=
  Heap.get?_push_of_some _ (Heap.get?_push_of_some _ ho1)
 have rows2:=hr (((s.heap.update a (Obj.mapSeq fun J=>(#[]:Array Value))).push (seqObj "tuple" vs.toArray 0)).push (seqObj "list" #[] 0)) fun b o hb e=>
  Heap.get?_push_of_some _ (Heap.get?_push_of_some _ ((Heap.get?_update_ne _ _ _ _ hb).trans e))
 have le:vs.toArray.size≤sizeLine:=by rw[List.size_toArray,sizeLine_eq];exact Nat.le_trans (Nat.le_of_lt h64) (by decide)
 rw[list_sort_plain]
 refine wpAny_bind (listItems_at ho rfl ?_)
 refine wpAny_bind (listUpdate_at ho rfl ?_ le (Nat.zero_le _))
 refine wpAny_bind (seqEpoch_at ho1 rfl ?_)
 refine wpAny_bind (wpAny_newTuple ?_ (by show vs.length≤_;rw[sizeLine_eq];exact Nat.le_trans (Nat.le_of_lt h64) (by decide)))
 refine wpAny_bind (wpAny_newList ?_ (Nat.zero_le _))
 refine wpAny_holding ?_
 show wpAny (model prog w) A _ Pp E {s with heap:=((s.heap.update a (Obj.mapSeq fun J=>(#[]:Array Value))).push (seqObj "tuple" vs.toArray 0)).push (seqObj "list" #[] 0)}
 dsimp only
 have fin:∀(st:SortSt) (p:Array Nat),Prm vs.length p→Up (rkey rows) p vs.length→(arrOf st).map (·.2)=List.toArray (p.toList.map fun i=>vs.getD i Value.none)→failedOf st=none→
  wpAny (model prog w) A (do
   let sorted:=(arrOf st).map (·.2)
   let touched:=(←seqEpoch a) !=e1
   Builtin.List.listUpdate (.ref a) fun J=>sorted
   if let some e:=failedOf st then rule "list.sort.comparison-raised";throw e
   if touched then rule "list.sort.modified";raiseError "ValueError" "list modified during sort"
   ret .none) Pp E {s with heap:=((s.heap.update a (Obj.mapSeq fun J=>(#[]:Array Value))).push (seqObj "tuple" vs.toArray 0)).push (seqObj "list" #[] 0)}:=by
  intro st p h1 h2 h3 h4
  have hsz:((arrOf st).map (·.2)).size≤sizeLine+1:=by
   have:=h1.pn.1
   rw[h3,List.size_toArray,List.length_map,Array.length_toList,this,sizeLine_eq];exact Nat.le_trans (Nat.le_of_lt h64) (by decide)
  refine wpAny_bind (seqEpoch_at ho6 rfl ?_)
  refine wpAny_bind (listUpdate_at ho6 rfl ?_ (Nat.zero_le _) hsz)
  rw[h4]
  simp only[bne_self_eq_false,Bool.false_eq_true,if_false]
  rw[h3]
  exact wpAny_pure (h _ ⟨p,h1,h2,rfl⟩)
 by_cases h2:vs.toArray.size<2
 ·rw[if_pos h2,if_pos h2]
  have h2':vs.length<2:=by rwa[List.size_toArray]at h2
  refine wpAny_bind (wpAny_pure ?_)
  rw[StateT.run_pure]
  refine wpAny_bind (wpAny_pure ?_)
  dsimp only
  refine fin (SortSt.mk' general' (vs.toArray.zip vs.toArray) #[] 7 none) (List.range vs.length).toArray (.refl _) (fun i j hij hj=>by have j0:j=0:=Nat.lt_one_iff.mp (Nat.lt_of_lt_of_le hj (Nat.le_of_lt_succ h2'));rw[show i=j from(Nat.le_zero.mp (j0▸hij)).trans j0.symm];exact le4.refl _) ?_ rfl
  rw[A0d]
  apply Array.toList_inj.mp
  show((vs.toArray.zip vs.toArray).map (·.2)).toList=_
  simp only[Array.toList_map,Array.toList_zip]
  exact List.map_snd_zip (Nat.le_refl _)
 ·rw[if_neg h2,if_neg h2]
  have h2':2≤vs.length:=by rw[List.size_toArray]at h2;exact Nat.not_lt.mp h2
  refine wpAny_bind (kas_kind (T:=.type "list") h2' (fun v hv=>?_) rfl rfl ?_)
  ·obtain⟨i,hi,rfl⟩:=List.getElem_of_mem hv
   obtain⟨b,m,t1,t2,t3,t4,e,q⟩:=rows2 i hi
   have e':vs[i]=.ref b:=by rw[←e];simp[hi]
   rw[e']
   exact(Looks.ld q).andThen .now
  refine wpAny_bind (wpAny_mono (kat_run (ks:=vs) (vs:=vs) (E:=E)
   (Q:=fun st' s'=>s'=_∧∃p:Array Nat,Prm vs.length p∧Up (rkey rows) p vs.length∧(arrOf st').map (·.2)=List.toArray (p.toList.map fun i=>vs.getD i Value.none)∧failedOf st'=none) rfl h2' h64
   (fun p st' s' a1 a2 a3 a4=>⟨a4.1,p,a4.2.1,a4.2.2,kat_snds rfl a2,a3⟩)
   (Z4 (key:=rkey rows) (fun i j C hi hj hc=>A44 hu (rows2 i hi) (rows2 j hj) hc) (A3b (Nat.le_of_succ_le h2')))) ?_ fun J J e=>e)
  rintro⟨⟨⟩,st'⟩ s' ⟨rfl,p,b1,b2,b3,b4⟩
  exact fin st' p b1 b2 b3 b4
theorem Qv{l:Addr}{vs:List Value}{rows:List R4}{Q:Value→Shared→Prop}(hu:A.in1.in1.units<cLine)(hl:s.heap.IsList l vs.toArray)(hr:∀i,i<vs.length→K0 s.heap (vs.getD i .none) (rkey rows i))(h64:vs.length<64)
 (h:∀out,A6j rows vs out→Q (.ref (s.heap.objs.size+1)) {s with heap:=sortedAll s.heap vs out.toArray}):
 wpAny (model prog w) A (call (.builtin "sorted") [.ref l]) Q E s:=by
 refine Calls.call_function_entry kind_sorted plain_sorted entry_sorted (args_sorted1 _) ?_
 unfold Builtin.«sorted»
 refine wpAny_bind (m:=checkCount "sorted" 1 1 _) (wpAny_pure ?_)
 have le:vs.length≤sizeLine:=by rw[sizeLine_eq];omega
 refine wpAny_bind (collect_list hl ?_ le)
 refine wpAny_bind (wpAny_newList ?_ le)
 have hsz:((s.heap.push (seqObj "list" #[] 0)).update s.heap.objs.size (Obj.mapSeq (·++vs.toArray))).objs.size=s.heap.objs.size+1:=by
  rw[Heap.size_update,size_push']
 have hoL:(((s.heap.push (seqObj "list" #[] 0)).update s.heap.objs.size (Obj.mapSeq (·++vs.toArray))).push (seqObj "list" vs.toArray 0)).get? (s.heap.objs.size+1)=some (seqObj "list" vs.toArray 0):=by
  rw[←hsz];exact Heap.get?_push_size _ rfl
 show wpAny _ _ _ _ _ {s with heap:=((s.heap.push (seqObj "list" #[] 0)).update s.heap.objs.size (Obj.mapSeq (·++vs.toArray))).push (seqObj "list" vs.toArray 0)}
 rw[hsz]
 refine wpAny_bind (wpAny_holding (wpAny_call_entry slot_list_sort ⟨_,hoL,rfl⟩ entry_list_sort (Ts hu hoL (fun h' k i hi=>(hr i hi).keep fun b o e ev=>?_) h64 fun out F=>⟨_,rfl,?_⟩) (args_list_sort _)))
 ·have hlt:b<s.heap.objs.size:=Heap.lt_size e
  refine k b o (Nat.ne_of_lt (Nat.lt_succ_of_lt hlt)) (Heap.get?_push_of_some _ ?_)
  rw[Heap.get?_update_ne _ _ _ _ (Nat.ne_of_lt hlt)]
  exact Heap.get?_push_of_some _ e
 ·exact wpAny_pure ⟨_,rfl,h out F⟩
theorem Tj{ls:List PV}:∀{rs:List R4},Ek ls=some rs→ls=rs.map R4.pv:=by
 induction ls with
 |nil=>
  intro _ h
  cases h;rfl
 |cons x ls ih=>
  intro rs h
  rw[show Ek (x::ls)=(Ze x).bind fun r=>(Ek ls).map (r::·)from rfl,Option.bind_eq_some_iff]at h
  obtain⟨r,h1,h2⟩:=h
  rw[Option.map_eq_some_iff]at h2
  obtain⟨rs',h3,rfl⟩:=h2
  rw[List.map_cons,←ih h3]
  congr 1
  exact Iy h1 fun l e=>onLC e fun a l e=>Lr e fun a e=>onLC e fun s l e=>Fk e fun s e=>onLC e fun b l e=>Lr e fun b e=>onL1 e fun c e=>Lr e fun c e=>by cases e;rfl
theorem A7d{fr:List Env}{h:Heap}(I:Inv W P fr h){r:R4}{v:Value}(x:Rv W P r.pv v):K0 h v r:=by
 obtain⟨e,y⟩:=x.inv
 obtain⟨a,y0⟩:=y.inv
 obtain⟨ta,rfl⟩:=a.inv
 obtain⟨b,y1⟩:=y0.inv
 obtain⟨tb,rfl⟩:=b.inv
 obtain⟨c,y2⟩:=y1.inv
 obtain⟨tc,rfl⟩:=c.inv
 obtain⟨d,y3⟩:=y2.inv
 obtain⟨td,rfl⟩:=d.inv
 cases y3.inv
 exact⟨_,_,_,_,_,_,rfl,I.gh _ _ e⟩
theorem A2q{rs:List R4}{vs:List Value}(h:Rvs W P (rs.map R4.pv) vs)(L:List Nat):(∀i∈L,i<rs.length)→Rvs W P (L.map fun i=>(rkey rs i).pv) (L.map fun i=>vs.getD i .none):=by
 induction L with
 |nil=>
  intro _
  exact .nil
 |cons i L ih=>
  intro k
  have hi:=k i (List.mem_cons_self ..)
  obtain⟨v,e,q⟩:=h.get (j:=i) (x:=(rkey rs i).pv) (by simp[rkey,hi])
  refine .cons ?_ (ih fun j hj=>k j (List.mem_cons_of_mem _ hj))
  show Rv W P _ (vs.getD i .none)
  rw[show vs.getD i .none=v by simp[e]]
  exact q
theorem Ta{rs:List R4}{p:Array Nat}(h1:Prm rs.length p)(h2:Up (rkey rs) p rs.length):p.toList.map (rkey rs)=Do rs:=by
 have e:(List.range rs.length).map (rkey rs)=rs:=by
  apply List.ext_getElem
  ·simp
  ·intro i a b;simp at a;simp[rkey,a]
 refine Yz (((h1.map (rkey rs)).trans (by rw[e])).trans (Gw rs).symm) ?_ (Iu rs)
 refine List.pairwise_iff_getElem.mpr fun i j hi hj hij=>?_
 simp only[List.length_map,Array.length_toList]at hi hj
 have:=h2 i j (Nat.le_of_lt hij) (by have:=h1.pn.1;omega)
 have ei:p.getD i 0=p[i]:=by simp[Array.getD,hi]
 have ej:p.getD j 0=p[j]:=by simp[Array.getD,hj]
 simp only[List.getElem_map,Array.getElem_toList]
 rw[←ei,←ej]
 exact this
theorem T9(hW:WOK W):Mo W:=by
 intro P η σ σ' fr n A s E m xs vs z hA I S hx e
 refine bl1 hx e fun x v r e=>pkB S r e fun y rw' e=>wLst rw' e fun ls a vs k ea wa e=>onIf e fun h64 e=>D7 e fun rs h1 h2=>Bb (congrArg some h2) ?_
 obtain rfl:=Tj h1
 have hl:s.heap.IsList a vs.toArray:=⟨_,Dw I _ _ ea,rfl,k,rfl⟩
 have hlen:=wa.length
 rw[List.length_map]at hlen h64
 refine Qv (rows:=rs) (show A.units+1+1<9900 from Nat.lt_of_le_of_lt (Nat.add_le_add_left (by decide:2≤400) A.units) (Nat.lt_of_le_of_lt (Nat.le_trans (Nat.add_le_add_right (Nat.le_add_right _ (20*n)) 400) hA.units) (by decide))) hl (fun i hi=>?_) (hlen▸h64) fun out F=>?_
 ·obtain⟨v,ev,q⟩:=wa.get (j:=i) (x:=(rkey rs i).pv) (by simp[rkey,show i<rs.length from hlen.symm▸hi])
  rw[show vs.getD i .none=v by simp[ev]]
  exact A7d I q
 ·obtain⟨p,p1,p2,rfl⟩:=F
  rw[←hlen]at p1 p2
  obtain⟨c,hc⟩:=sortedAll_at s.heap vs (List.toArray (p.toList.map fun i=>vs.getD i .none))
  refine⟨_,s.toks,rfl,Lz (n:=c) hW.sys I S (vs:=p.toList.map fun i=>vs.getD i .none) ?_ m (fun b o=>sortedAll_old) (Heap.get?_none_of_le (Nat.le_succ _)) hc⟩
  have:=A2q wa p.toList fun i hi=>List.mem_range.mp (p1.mem_iff.mp hi)
  rwa[show(p.toList.map fun i=>(rkey rs i).pv)=(p.toList.map (rkey rs)).map R4.pv by rw[List.map_map];rfl,Ta p1 p2]at this
end Mine.Internal
namespace Mine.Internal
section
variable {pol:Pol} {Φ:Phi} {ρ:PEnv} {σ σ':Sto} {m:Bool}
@[simp] theorem Res.ok_bind{α β:Type}(a:α)(f:α→Res β):(Res.ok a).bind f=f a:=rfl
noncomputable def cSeq(pol:Pol)(Φ:Phi)(r:CSs):Fl×PEnv×Sto→ResS:=fun q=>match q.1 with
 |.next=>exs pol Φ r q.2.1 q.2.2
 |.ret v=>.ok (.ret v,q.2.1,q.2.2)
noncomputable def Aao(ρ:PEnv):Val×Sto→ResS:=fun q=>.ok (.next,ρ,q.2)
noncomputable def cAsg(i:Nat)(ρ:PEnv):Val×Sto→ResS:=fun q=>.ok (.next,setV ρ i q.1,q.2)
noncomputable def kEnv(σ:Sto)(ρ:PEnv):Fl×PEnv×Sto:=(.next,ρ,σ)
noncomputable def kSto(ρ:PEnv)(σ:Sto):Fl×PEnv×Sto:=(.next,ρ,σ)
noncomputable def cUnp(is:List Nat)(ρ:PEnv):Val×Sto→ResS:=fun q=>match q.1 with
 |.v (.lst xs)=>Ac ((Bx is xs ρ).map (kEnv q.2))
 |.v (.tup xs)=>Ac ((Bx is xs ρ).map (kEnv q.2))
 |_=>.stk
noncomputable def A2c(a:Cs)(x:Val)(ρ:PEnv):Val×Sto→ResS:=fun q=>Ac ((E4 q.1 a x q.2).map (kSto ρ))
noncomputable def A91(pol:Pol)(Φ:Phi)(o:CE)(a:Cs)(ρ:PEnv):Val×Sto→ResS:=fun q=>(ev pol Φ ρ false o q.2).bind (A2c a q.1 ρ)
noncomputable def cIf(pol:Pol)(Φ:Phi)(t e:CSs)(ρ:PEnv):Bool×Sto→ResS:=fun q=>cond q.1 (exs pol Φ t ρ q.2) (exs pol Φ e ρ q.2)
noncomputable def cRet(ρ:PEnv):Val×Sto→ResS:=fun q=>.ok (.ret q.1,ρ,q.2)
noncomputable def forB(pol:Pol)(Φ:Phi)(i:Nat)(b:CSs)(xs:List PV)(ρ:PEnv)(σ:Sto):ResS:=forL (fun y ρ σ=>exs pol Φ b (setV ρ i (.v y)) σ) xs ρ σ
noncomputable def M8(pol:Pol)(Φ:Phi)(is:List Nat)(b:CSs)(xs:List PV)(ρ:PEnv)(σ:Sto):ResS:=forL (fun y ρ σ=>tupK is ρ (fun ρ'=>exs pol Φ b ρ' σ) y) xs ρ σ
noncomputable def kFor(pol:Pol)(Φ:Phi)(i:Nat)(b:CSs)(ρ:PEnv):Sto→Option (List PV)→ResS:=J7 fun xs σ=>forB pol Φ i b xs ρ σ
noncomputable def Aac(pol:Pol)(Φ:Phi)(is:List Nat)(b:CSs)(ρ:PEnv):Sto→Option (List PV)→ResS:=J7 fun xs σ=>M8 pol Φ is b xs ρ σ
noncomputable def A0n(pol:Pol)(Φ:Phi)(i:Nat)(b:CSs)(ρ:PEnv):Option (PV×Sto)→ResS:=Dt fun xs σ=>forB pol Φ i b xs ρ σ
noncomputable def A0m(pol:Pol)(Φ:Phi)(is:List Nat)(b:CSs)(ρ:PEnv):Option (PV×Sto)→ResS:=Dt fun xs σ=>M8 pol Φ is b xs ρ σ
noncomputable def cFor(pol:Pol)(Φ:Phi)(i:Nat)(b:CSs)(ρ:PEnv):Val×Sto→ResS:=fun q=>A0n pol Φ i b ρ (frz q.2 q.1)
noncomputable def Aan(pol:Pol)(Φ:Phi)(is:List Nat)(b:CSs)(ρ:PEnv):Val×Sto→ResS:=fun q=>A0m pol Φ is b ρ (frz q.2 q.1)
noncomputable def whB(pol:Pol)(Φ:Phi)(c:CE)(b:CSs)(n:Nat)(ρ:PEnv)(σ:Sto):ResS:=whlN (fun ρ σ=>Ar (ev pol Φ ρ false c σ)) (fun ρ σ=>exs pol Φ b ρ σ) n ρ σ
noncomputable def cWh2(pol:Pol)(Φ:Phi)(c:CE)(b:CSs)(n:Nat):Fl×PEnv×Sto→ResS:=flK fun ρ σ=>whB pol Φ c b n ρ σ
noncomputable def cWh(pol:Pol)(Φ:Phi)(c:CE)(b:CSs)(n:Nat)(ρ:PEnv):Bool×Sto→ResS:=fun q=>cond q.1 ((exs pol Φ b ρ q.2).bind (cWh2 pol Φ c b n)) (.ok (.next,ρ,q.2))
noncomputable def A2a(x o:Val)(ρ:PEnv):Val×Sto→ResS:=fun q=>Ac ((E3 o q.1 x q.2).map (kSto ρ))
noncomputable def A2b(pol:Pol)(Φ:Phi)(i:CE)(x:Val)(ρ:PEnv):Val×Sto→ResS:=fun q=>(ev pol Φ ρ false i q.2).bind (A2a x q.1 ρ)
noncomputable def A90(pol:Pol)(Φ:Phi)(o i:CE)(ρ:PEnv):Val×Sto→ResS:=fun q=>(ev pol Φ ρ false o q.2).bind (A2b pol Φ i q.1 ρ)
noncomputable def kAs(i:Nat)(ρ:PEnv):Val×Sto→Fl×PEnv×Sto:=fun q=>(.next,setV ρ i q.1,q.2)
end
end Mine.Internal
namespace Mine.Internal
section
variable {pol:Pol} {Φ:Phi} {ρ:PEnv} {σ σ':Sto} {m:Bool}
noncomputable def kFz2(x:PV):List PV×Sto→List PV×Sto:=fun q=>(x::q.1,q.2)
noncomputable def kFz(r:List Val):PV×Sto→Option (List PV×Sto):=fun q=>(frzs q.2 r).map (kFz2 q.1)
theorem A15(xs:List PV):frzs σ (xs.map .v)=some (xs,σ):=by
 induction xs with
 |nil=>
  exact rfl
 |cons x xs ih=>
  exact congrArg (fun(o:Option (List PV×Sto))=>o.map fun(z:List PV×Sto)=>(x::z.1,z.2)) (ih)
noncomputable def cE2(x:Val):List Val×Sto→Res (List Val×Sto):=fun b=>.ok (x::b.1,b.2)
noncomputable def cE1(pol:Pol)(Φ:Phi)(r:CEs)(ρ:PEnv):Val×Sto→Res (List Val×Sto):=fun a=>(evs pol Φ ρ r a.2).bind (cE2 a.1)
@[simp] theorem C8{x:PV}:ev pol Φ ρ m (.cst x) σ=.ok (.v x,σ):=rfl
noncomputable def kTup:List PV×Sto→Val×Sto:=fun q=>(.v (.tup q.1),q.2)
noncomputable def cTup:List Val×Sto→Res (Val×Sto):=fun r=>Ac ((frzs r.2 r.1).map kTup)
noncomputable def kLst(m:Bool):List PV×Sto→Val×Sto:=fun q=>mk m q.1 q.2
noncomputable def cLst(m:Bool):List Val×Sto→Res (Val×Sto):=fun r=>Ac ((frzs r.2 r.1).map (kLst m))
noncomputable def kDct(m:Bool)(ks:List Cs):List PV×Sto→Option (Val×Sto):=fun q=>if ks.length=q.1.length∧ks.length≤15 then some (mkD m ((ks.zip q.1).foldl (fun es kx=>put kx.1 kx.2 es) []) q.2)else none
noncomputable def cDct(m:Bool)(ks:List Cs):List Val×Sto→Res (Val×Sto):=fun r=>Ac ((frzs r.2 r.1).bind (kDct m ks))
noncomputable def cBo(pol:Pol)(Φ:Phi)(k:Bool)(r:CEs)(ρ:PEnv):Bool×Sto→Res (Val×Sto):=fun a=>if a.1=k then evBo pol Φ ρ k r a.2 else .ok (.v (.bool a.1),a.2)
noncomputable def cNot:Bool×Sto→Res (Val×Sto):=fun r=>.ok (.v (.bool (!r.1)),r.2)
noncomputable def Aae(op:Bop)(m:Bool)(σ:Sto)(x:PV):PV→Option (Val×Sto):=fun y=>binP op m x y σ
noncomputable def kBin(op:Bop)(m:Bool)(σ:Sto)(o:Option PV):PV→Option (Val×Sto):=fun x=>o.bind (Aae op m σ x)
noncomputable def A2i(op:Bop)(m:Bool)(x:Val):Val×Sto→Res (Val×Sto):=fun q=>Ac ((pk q.2 x).bind (kBin op m q.2 (pk q.2 q.1)))
@[simp] theorem A2h{op:Bop}{x y:Val}:A2i op m x (y,σ)=Ac ((pk σ x).bind (kBin op m σ (pk σ y))):=rfl
noncomputable def Aar(pol:Pol)(Φ:Phi)(op:Bop)(m:Bool)(b:CE)(ρ:PEnv):Val×Sto→Res (Val×Sto):=fun r=>(ev pol Φ ρ false b r.2).bind (A2i op m r.1)
noncomputable def cIte(pol:Pol)(Φ:Phi)(m:Bool)(a b:CE)(ρ:PEnv):Bool×Sto→Res (Val×Sto):=fun r=>cond r.1 (ev pol Φ ρ m a r.2) (ev pol Φ ρ m b r.2)
noncomputable def kBo(σ:Sto):Bool→Val×Sto:=fun z=>(.v (.bool z),σ)
noncomputable def Aad(op:Cop)(σ:Sto)(x:PV):PV→Option (Val×Sto):=fun y=>(cmpP op x y).map (kBo σ)
noncomputable def kCmp(op:Cop)(σ:Sto)(o:Option PV):PV→Option (Val×Sto):=fun x=>o.bind (Aad op σ x)
noncomputable def A2g(op:Cop)(x:Val):Val×Sto→Res (Val×Sto):=fun q=>Ac ((pk q.2 x).bind (kCmp op q.2 (pk q.2 q.1)))
@[simp] theorem A2f{op:Cop}{x y:Val}:A2g op x (y,σ)=Ac ((pk σ x).bind (kCmp op σ (pk σ y))):=rfl
noncomputable def Aaq(pol:Pol)(Φ:Phi)(op:Cop)(b:CE)(ρ:PEnv):Val×Sto→Res (Val×Sto):=fun r=>(ev pol Φ ρ false b r.2).bind (A2g op r.1)
noncomputable def A92(pol:Pol)(Φ:Phi)(f:Nat)(m:Bool):List Val×Sto→Res (Val×Sto):=fun r=>A1 pol Φ f m r.1 r.2
noncomputable def Qg(pol:Pol)(Φ:Phi)(c:Nat)(m:Bool):List Val×Sto→Res (Val×Sto):=fun r=>Cd pol Φ c m r.1 r.2
noncomputable def Qh(b:Bid)(m:Bool):List Val×Sto→Res (Val×Sto):=fun r=>Ac (callB b m r.1 r.2)
@[simp] theorem Oc{b:Bid}{xs:List Val}:Qh b m (xs,σ)=Ac (callB b m xs σ):=rfl
noncomputable def A2d(k:Mid)(o:Val)(t:Ty):List Val×Sto→Res (Val×Sto):=fun q=>@ite _ (tyOf q.2 o=some t) (Wb _ _) (Ac (Ih k o q.1 q.2)) .stk
noncomputable def A5y(pol:Pol)(Φ:Phi)(k:Mid)(o:Val)(es:CEs)(ρ:PEnv)(σ:Sto):Option Ty→Res (Val×Sto)
 |some t=>if okM k t=true then(evs pol Φ ρ es σ).bind (A2d k o t)else .stk
 |none=>.stk
noncomputable def Aam(pol:Pol)(Φ:Phi)(k:Mid)(es:CEs)(ρ:PEnv):Val×Sto→Res (Val×Sto):=fun r=>A5y pol Φ k r.1 es ρ r.2 (tyOf r.2 r.1)
noncomputable def A0p(σ:Sto):Val→Option (Val×Sto):=fun x=>if rawV x then none else some (norm σ x,σ)
noncomputable def A6g(a:Cs):Val×Sto→Res (Val×Sto):=fun r=>Ac ((T0 r.1 a r.2).bind (A0p r.2))
noncomputable def kV(σ:Sto):PV→Val×Sto:=fun z=>(.v z,σ)
noncomputable def Aab(σ:Sto)(x:PV):PV→Option (Val×Sto):=fun y=>(subP x y).map (kV σ)
noncomputable def kSub(σ:Sto)(o:Option PV):PV→Option (Val×Sto):=fun x=>o.bind (Aab σ x)
noncomputable def A29(x:Val):Val×Sto→Res (Val×Sto):=fun q=>Ac ((pk q.2 x).bind (kSub q.2 (pk q.2 q.1)))
@[simp] theorem A28{x y:Val}:A29 x (y,σ)=Ac ((pk σ x).bind (kSub σ (pk σ y))):=rfl
noncomputable def A6c(pol:Pol)(Φ:Phi)(i:CE)(ρ:PEnv):Val×Sto→Res (Val×Sto):=fun r=>(ev pol Φ ρ false i r.2).bind (A29 r.1)
noncomputable def kSlc(lo hi:Option Int)(m:Bool)(σ:Sto):PV→Option (Val×Sto):=fun x=>slcP lo hi x m σ
noncomputable def A6d(m:Bool)(x:Val):Val×Sto→Res (Val×Sto):=fun q=>match q.1 with
 |.v (.int j)=>Ac ((pk q.2 x).bind (kSlc none (some j) m q.2))
 |_=>.stk
noncomputable def A6e(m:Bool)(x:Val):Val×Sto→Res (Val×Sto):=fun q=>match q.1 with
 |.v (.int j)=>Ac ((pk q.2 x).bind (kSlc (some j) none m q.2))
 |_=>.stk
noncomputable def Aak(pol:Pol)(Φ:Phi)(m:Bool)(i:CE)(ρ:PEnv):Val×Sto→Res (Val×Sto):=fun r=>(ev pol Φ ρ false i r.2).bind (A6d m r.1)
noncomputable def Aal(pol:Pol)(Φ:Phi)(m:Bool)(i:CE)(ρ:PEnv):Val×Sto→Res (Val×Sto):=fun r=>(ev pol Φ ρ false i r.2).bind (A6e m r.1)
noncomputable def Gr(pol:Pol)(Φ:Phi)(elt:CE)(ifs:CEs)(nv:Nat)(ρ:PEnv)(xs acc:List PV)(σ:Sto):Res (List PV×Sto):=
 Jx (fun y σ=>E9 pol Φ ((some (Val.v y)::List.replicate nv none)::ρ) ifs σ) (fun y σ=>ev pol Φ ((some (Val.v y)::List.replicate nv none)::ρ) false elt σ) xs acc σ
noncomputable def A84(pol:Pol)(Φ:Phi)(elt:CE)(ifs:CEs)(nv:Nat)(m:Bool)(ρ:PEnv):Sto→Option (List PV)→Res (Val×Sto):=J7 fun xs σ=>O9 m xs (Gr pol Φ elt ifs nv ρ xs [] σ)
noncomputable def A0o(pol:Pol)(Φ:Phi)(elt:CE)(ifs:CEs)(nv:Nat)(m:Bool)(ρ:PEnv):Option (PV×Sto)→Res (Val×Sto):=Dt fun xs σ=>O9 m xs (Gr pol Φ elt ifs nv ρ xs [] σ)
noncomputable def Aap(pol:Pol)(Φ:Phi)(elt:CE)(ifs:CEs)(nv:Nat)(m:Bool)(ρ:PEnv):Val×Sto→Res (Val×Sto):=fun r=>A0o pol Φ elt ifs nv m ρ (frz r.2 r.1)
noncomputable def cIfs(pol:Pol)(Φ:Phi)(r:CEs)(ρ:PEnv):Bool×Sto→Res (Bool×Sto):=fun a=>cond a.1 (E9 pol Φ ρ r a.2) (.ok (false,a.2))
noncomputable def cT2(t:Cs):Cs×Sto→Res (Cs×Sto):=fun b=>.ok (t++b.1,b.2)
noncomputable def kTx(σ:Sto):Cs→Res (Cs×Sto):=fun t=>.ok (t,σ)
noncomputable def cT1(pol:Pol)(Φ:Phi)(r:CEs)(ρ:PEnv):Cs×Sto→Res (Cs×Sto):=fun q=>(evT pol Φ ρ r q.2).bind (cT2 q.1)
noncomputable def cFst:Cs×Sto→Res (Val×Sto):=fun r=>if small r.1.length then .ok (.v (.str r.1),r.2)else .stk
noncomputable def kRev(m:Bool)(σ:Sto):PV→Option (Val×Sto):=fun x=>match x with
 |.lst xs=>if small xs.length then some (mk m xs.reverse σ)else none
 |_=>none
noncomputable def cRev(m:Bool):Val×Sto→Res (Val×Sto):=fun r=>Ac ((pk r.2 r.1).bind (kRev m r.2))
noncomputable def kSt(σ:Sto):Val×Sto:=(.v .none,σ)
noncomputable def cSd2(o:Val)(x:PV):Val×Sto→Res (Val×Sto):=fun q=>Ac ((sdApp o q.1 x q.2).map kSt)
noncomputable def cSd(pol:Pol)(Φ:Phi)(v:Option Val)(k:CE)(ρ:PEnv):Val×Sto→Res (Val×Sto):=fun r=>match v with
 |some (.v x)=>@ite _ (tyOf r.2 r.1=some .dict) (Wb _ _) ((ev pol Φ ρ false k r.2).bind (cSd2 r.1 x)) .stk
 |_=>.stk
end
section
variable {σ:Sto} {m:Bool} {x y k i a:PV} {xs ys:List PV} {n:Nat}
@[simp] theorem Y7{v:Val}:callB .len m [v] σ=(pk σ v).bind (lenP σ):=rfl
@[simp] theorem Un{v:Val}:callB .list m [v] σ=(pk σ v).bind (A0h m σ):=rfl
@[simp↓] theorem gj0{v:Option Val}{r:List (Option Val)}:((v::r)[0]?).join=v:=rfl
@[simp↓] theorem gjs{v:Option Val}{r:List (Option Val)}:((v::r)[n+1]?).join=(r[n]?).join:=rfl
@[simp low] theorem Vi{j:Int}:subP (.lst xs) (.int j)=(Ew xs.length j).bind fun j=>xs[j]?:=rfl
@[simp low] theorem Ab1{j:Int}:subP (.tup xs) (.int j)=(Ew xs.length j).bind fun j=>xs[j]?:=rfl
@[simp low] theorem Ab2{s:Cs}{j:Int}:subP (.str s) (.int j)=(Ew s.length j).bind fun j=>(s[j]?).map fun c=>.str [c]:=rfl
end
end Mine.Internal
namespace Mine.Internal
open PySem
section
variable {Φ:Phi} {ρ:PEnv} {σ σ':Sto} {m:Bool} {n:Nat}
noncomputable def kR:Option (PV×Sto)→Res PV
 |some (r,_)=>.ok r
 |none=>.stk
noncomputable def retv:ResS→Res PV
 |.ok (.ret z,_,σ')=>kR (frz σ' z)
 |.ok (.next,_,_)=>.ok .none
 |.exc m=>.exc m
 |.stk=>.stk
noncomputable def kP(o:Option PO)(n:Nat)(σ:Sto):Option (PV×Sto):=o.bind (frzO σ n)
theorem A8g{k:Nat}:frz σ (.h k)=kP (σ[k]?) k σ:=rfl
theorem U7{k:Nat}{xs:List PV}(h:σ[k]?=some (.list xs)):frz σ (.h k)=some (.lst xs,σ.set k (.froz (.lst xs))):=by rw[A8g,h];rfl
noncomputable def cFin:Fl×PEnv×Sto→Res (Val×Sto):=fun r=>match r.1 with
 |.ret x=>.ok (norm r.2.2 x,r.2.2)
 |.next=>.ok (.v .none,r.2.2)
theorem H0{f:Nat}{c:FC}{vs:List Val}{row:List (Option Val)}(hc:codes f=some c)(hb:Ey c vs=some row):phi pol codes (n+1) f vs σ=(exs pol (phi pol codes n) c.body [row] σ).bind cFin:=by
 show(match codes f with|none=>_|some c=>_)=_
 rw[hc];dsimp only;rw[hb];try rfl
theorem Jc{Φ:Phi}{c:Nat}{vs:List Val}{ps:List PV}(h:frzs σ vs=some (ps,σ)):Cd pol Φ c m vs σ=(Φ (pol.initOf c) (.h σ.length::ps.map .v) (σ++[.inst c []])).bind (Mf m σ.length):=congrArg (Fr _) h
noncomputable def kI(z:PV×Sto):Val×Sto:=(.v z.1,z.2)
theorem Gf{f:Nat}{vs:List Val}{ps:List PV}{σ':Sto}(hp:pol.shared f=false)(h:frzs σ vs=some (ps,σ')):A1 pol Φ f m vs σ=(Φ f (ps.map .v) []).bind (Dv m σ'):=
 (congrArg (fun b=>cond b (Φ f vs σ) (Fr (fun ps σ1=>(Φ f (ps.map .v) []).bind (Dv m σ1)) (frzs σ vs))) hp).trans (congrArg (Fr fun ps σ1=>(Φ f (ps.map .v) []).bind (Dv m σ1)) h)
theorem A21{R:ResS}{r:Res PV}(he:retv R=r)(hr:r≠.stk):(R.bind cFin).bind (Dv false σ)=r.bind fun x=>.ok (.v x,σ):=by
 subst he
 induction R using Res.casesOn with
 |stk=>rfl
 |exc e=>rfl
 |ok q=>
  obtain⟨fl,ρ',σ'⟩:=q
  induction fl using Fl.casesOn with
  |next=>rfl
  |ret x=>
   induction x using Val.casesOn with
   |v y=>rfl
   |h k=>
    have e1:retv (.ok (.ret (.h k),ρ',σ'))=kR ((σ'[k]?).bind (frzO σ' k)):=rfl
    have e2:((Res.ok (Fl.ret (Val.h k),ρ',σ')).bind cFin).bind (Dv false σ)=Dv false σ (No k (σ'[k]?),σ'):=rfl
    rw[e1]at hr⊢
    rw[e2]
    cases hk:σ'[k]? with
    |none=>rw[hk]at hr;exact absurd rfl hr
    |some po=>
     rw[hk]at hr
     have e3:Dv false σ (.h k,σ')=Mg false σ σ' k (some po):=congrArg (Mg false σ σ' k) hk
     cases po with
     |list ys=>exact e3
     |froz y=>rfl
     |dict es=>exact e3
     |dictl es=>exact e3
     |inst c fs=>
      refine Eq.trans e3 ?_
      show Ac ((frzO σ' k (.inst c fs)).map _)=(kR (frzO σ' k (.inst c fs))).bind _
      cases hz:frzO σ' k (.inst c fs)with
      |none=>exact absurd (congrArg kR hz) hr
      |some q=>rfl
theorem Cc{f:Nat}{c:FC}{vs:List Val}{row:List (Option Val)}{xs:List PV}{r:Res PV}(hv:frzs σ vs=some (xs,σ))(hc:codes f=some c)(hp:pol.shared f=false)(hb:Ey c (xs.map .v)=some row)
 (he:retv (exs pol (phi pol codes n) c.body [row] [])=r) (hr:r≠.stk):A1 pol (phi pol codes (n+1)) f false vs σ=r.bind fun x=>.ok (.v x,σ):=by
 rw[Gf hp hv,H0 hc hb]
 exact A21 he hr
theorem A4{f:Nat}{c:FC}{vs:List Val}{row:List (Option Val)}{xs:List PV}{x:PV}(hv:frzs σ vs=some (xs,σ))(hc:codes f=some c)(hp:pol.shared f=false)(hb:Ey c (xs.map .v)=some row)
 (he:retv (exs pol (phi pol codes n) c.body [row] [])=.ok x):A1 pol (phi pol codes (n+1)) f false vs σ=.ok (.v x,σ):=Cc hv hc hp hb he (Res.ok_ne rfl)
theorem Ax{elt:CE}{xs:List PV}{nv:Nat}(g:PV→PV)(h:∀x∈xs,ev pol Φ ((some (Val.v x)::List.replicate nv none)::ρ) false elt σ=.ok (.v (g x),σ)):∀{acc},Gr pol Φ elt .nil nv ρ xs acc σ=.ok (acc++xs.map g,σ):=by
 induction xs with
 |nil=>intro acc;rw[Gr,We,List.map_nil,List.append_nil]
 |cons x xs ih=>
  intro acc
  exact(Res.bind_at (h x (List.mem_cons_self ..))).trans ((ih (fun y hy=>h y (List.mem_cons_of_mem _ hy)) (acc:=acc++[g x])).trans (by rw[List.append_assoc];rfl))
theorem Ig{elt:CE}{ifs:CEs}{xs:List PV}{nv:Nat}(p:PV→Bool)(g:PV→PV)(hp:∀x∈xs,E9 pol Φ ((some (Val.v x)::List.replicate nv none)::ρ) ifs σ=.ok (p x,σ))(h:∀x∈xs,p x=true→ev pol Φ ((some (Val.v x)::List.replicate nv none)::ρ) false elt σ=.ok (.v (g x),σ)):
 ∀{acc},Gr pol Φ elt ifs nv ρ xs acc σ=.ok (acc++(xs.filter p).map g,σ):=by
 induction xs with
 |nil=>intro acc;rw[Gr,We,List.filter_nil,List.map_nil,List.append_nil]
 |cons x xs ih=>
  intro acc
  have ih':=fun acc=>ih (fun y hy=>hp y (List.mem_cons_of_mem _ hy)) (fun y hy=>h y (List.mem_cons_of_mem _ hy)) (acc:=acc)
  refine(Res.bind_at (hp x (List.mem_cons_self ..))).trans ?_
  cases e:p x with
  |true=>exact(Res.bind_at (h x (List.mem_cons_self ..) e)).trans ((ih' _).trans (by rw[List.filter_cons_of_pos e,List.map_cons,List.append_assoc];rfl))
  |false=>exact(ih' acc).trans (by rw[List.filter_cons_of_neg (by rw[e];exact Bool.false_ne_true)])
noncomputable def Ch(z:Option Val):List PV→Option Val
 |[]=>z
 |x::xs=>Ch (some (.v x)) xs
theorem J8{β:Type}{i:Nat}{b:CSs}{xs:List PV}(R:Option Val→β→PEnv)(S:β→Sto)(step:β→PV→β)(Inv:List PV→β→Prop)
 (h:∀pre z s x post,xs=pre++x::post→Inv pre s→exs pol Φ b (setV (R z s) i (.v x)) (S s)=.ok (.next,R (some (.v x)) (step s x),S (step s x))∧Inv (pre++[x]) (step s x))
 {z:Option Val} {s:β} (hs:Inv [] s):forB pol Φ i b xs (R z s) (S s)=.ok (.next,R (Ch z xs) (xs.foldl step s),S (xs.foldl step s)):=by
 have go:∀(post pre:List PV) (z:Option Val) (s:β),xs=pre++post→Inv pre s→forB pol Φ i b post (R z s) (S s)=.ok (.next,R (Ch z post) (post.foldl step s),S (post.foldl step s)):=by
  intro post
  induction post with
  |nil=>intro pre z s _ _;rfl
  |cons x post ih=>
   intro pre z s e hi
   obtain⟨h1,h2⟩:=h pre z s x post e hi
   have ih':=ih (pre++[x]) (some (.v x)) (step s x) (by rw[e];simp) h2
   unfold forB at ih'⊢
   rw[A18,h1]
   exact ih'
 exact go xs [] z s rfl hs
end
end Mine.Internal
namespace Mine.Internal
open PySem
section
variable {pol:Pol} {Φ:Phi} {ρ ρ':PEnv} {σ σ' σ1 σ2:Sto} {m:Bool} {R:ResS}
theorem A5{i:Nat}{e:CE}{r:CSs}{v:Val}(h:ev pol Φ ρ m e σ=.ok (v,σ'))(k:exs pol Φ r (setV ρ i v) σ'=R):exs pol Φ (.cons (.asg i m e) r) ρ σ=R:=(Res.bind_at (f:=cSeq pol Φ r) (a:=(.next,setV ρ i v,σ')) (Res.bind_at (f:=cAsg i ρ) h)).trans k
theorem Af{e:CE}{r:CSs}{v:Val}(h:ev pol Φ ρ false e σ=.ok (v,σ'))(k:exs pol Φ r ρ σ'=R):exs pol Φ (.cons (.expr e) r) ρ σ=R:=(Res.bind_at (f:=cSeq pol Φ r) (a:=(.next,ρ,σ')) (Res.bind_at (f:=Aao ρ) h)).trans k
theorem Ej{c:CE}{t e r:CSs}(h:ev pol Φ ρ false c σ=.ok (.v (.bool false),σ'))(k:(exs pol Φ e ρ σ').bind (cSeq pol Φ r)=R):exs pol Φ (.cons (.ifS c t e) r) ρ σ=R:=(congrArg (fun z=>((Ar z).bind (cIf pol Φ t e ρ)).bind (cSeq pol Φ r)) h).trans k
theorem A6{c:CE}{t r:CSs}(h:ev pol Φ ρ false c σ=.ok (.v (.bool false),σ'))(k:exs pol Φ r ρ σ'=R):exs pol Φ (.cons (.ifS c t .nil) r) ρ σ=R:=Ej h k
theorem Ai{c:CE}{t e r:CSs}(h:ev pol Φ ρ false c σ=.ok (.v (.bool true),σ'))(k:(exs pol Φ t ρ σ').bind (cSeq pol Φ r)=R):exs pol Φ (.cons (.ifS c t e) r) ρ σ=R:=(congrArg (fun z=>((Ar z).bind (cIf pol Φ t e ρ)).bind (cSeq pol Φ r)) h).trans k
theorem B8{s r:CSs}(h:exs pol Φ s ρ σ=.ok (.next,ρ',σ'))(k:exs pol Φ r ρ' σ'=R):(exs pol Φ s ρ σ).bind (cSeq pol Φ r)=R:=(Res.bind_at (f:=cSeq pol Φ r) h).trans k
theorem Aa{e:CE}{r:CSs}{v:Val}(h:ev pol Φ ρ m e σ=.ok (v,σ')):exs pol Φ (.cons (.ret m e) r) ρ σ=.ok (.ret v,ρ,σ'):=Res.bind_at (f:=cSeq pol Φ r) (a:=(.ret v,ρ,σ')) (Res.bind_at h)
theorem Ab{s:CSs}{x:PV}(h:exs pol Φ s ρ σ=R)(k:retv R=.ok x):retv (exs pol Φ s ρ σ)=.ok x:=(congrArg retv h).trans k
theorem Am{i:Nat}{it:CE}{b r:CSs}{v:Val}{x:PV}{xs:List PV}(h:ev pol Φ ρ false it σ=.ok (v,σ1))(h1:frz σ1 v=some (x,σ2))(h2:Az x=some xs)(hb:forB pol Φ i b xs ρ σ2=.ok (.next,ρ',σ'))(k:exs pol Φ r ρ' σ'=R):exs pol Φ (.cons (.forS i it b) r) ρ σ=R:=by
 refine Eq.trans (Res.bind_at (f:=cSeq pol Φ r) (a:=(.next,ρ',σ')) ?_) k
 refine(Res.bind_at (f:=cFor pol Φ i b ρ) h).trans ?_
 refine(congrArg (A0n pol Φ i b ρ) h1).trans ((congrArg (kFor pol Φ i b ρ σ2) h2).trans hb)
theorem Ww{is:List Nat}{it:CE}{b r:CSs}{v:Val}{x:PV}{xs:List PV}(h:ev pol Φ ρ false it σ=.ok (v,σ1))(h1:frz σ1 v=some (x,σ2))(h2:Az x=some xs)(hb:M8 pol Φ is b xs ρ σ2=.ok (.next,ρ',σ'))(k:exs pol Φ r ρ' σ'=R):exs pol Φ (.cons (.forT is it b) r) ρ σ=R:=by
 refine Eq.trans (Res.bind_at (f:=cSeq pol Φ r) (a:=(.next,ρ',σ')) ?_) k
 refine(Res.bind_at (f:=Aan pol Φ is b ρ) h).trans ?_
 refine(congrArg (A0m pol Φ is b ρ) h1).trans ((congrArg (Aac pol Φ is b ρ σ2) h2).trans hb)
theorem Qs{c:CE}{b r:CSs}(h:whB pol Φ c b FUEL ρ σ=.ok (.next,ρ',σ'))(k:exs pol Φ r ρ' σ'=R):exs pol Φ (.cons (.whl c b) r) ρ σ=R:=
 (Res.bind_at (f:=cSeq pol Φ r) (a:=(.next,ρ',σ')) (congrArg Res.noX h)).trans k
theorem Wv{o i e:CE}{r:CSs}{x a z:Val}(h1:ev pol Φ ρ false e σ=.ok (x,σ))(h2:ev pol Φ ρ false o σ=.ok (a,σ))(h3:ev pol Φ ρ false i σ=.ok (z,σ))(h4:E3 a z x σ=some σ')(k:exs pol Φ r ρ σ'=R):exs pol Φ (.cons (.setI o i e) r) ρ σ=R:=by
 refine Eq.trans (Res.bind_at (f:=cSeq pol Φ r) (a:=(.next,ρ,σ')) ?_) k
 refine(Res.bind_at (f:=A90 pol Φ o i ρ) h1).trans ((Res.bind_at (f:=A2b pol Φ i x ρ) h2).trans ((Res.bind_at (f:=A2a x a ρ) h3).trans ?_))
 exact congrArg (fun(o:Option Sto)=>Ac (o.map (kSto ρ))) h4
theorem Aw{d i:Nat}{x:Val}(h:getV ρ d i=some x):ev pol Φ ρ m (.var d i) σ=.ok (norm σ x,σ):=congrArg (kVar σ) h
theorem A0{d i:Nat}{x:PV}(h:getV ρ d i=some (.v x)):ev pol Φ ρ m (.var d i) σ=.ok (.v x,σ):=congrArg (kVar σ) h
theorem As{d i:Nat}{x y:Val}(h:getV ρ d i=some x)(hn:norm σ x=y):ev pol Φ ρ m (.var d i) σ=.ok (y,σ):=(Aw h).trans (congrArg (fun x=>Res.ok (x,σ)) hn)
theorem Er{k:Nat}{xs:List PV}(h:σ[k]?=some (.list xs)):norm σ (.h k)=.h k:=congrArg (No k) h
theorem A2{f:Nat}{es:CEs}{vs:List Val}{r:Res (Val×Sto)}(h1:evs pol Φ ρ es σ=.ok (vs,σ1))(h2:A1 pol Φ f m vs σ1=r):ev pol Φ ρ m (.callF f es) σ=r:=(Res.bind_at (f:=A92 pol Φ f m) h1).trans h2
theorem A7{e:CE}{r:CEs}{v:Val}{vs:List Val}(h:ev pol Φ ρ false e σ=.ok (v,σ'))(h2:evs pol Φ ρ r σ'=.ok (vs,σ1)):evs pol Φ ρ (.cons e r) σ=.ok (v::vs,σ1):=(Res.bind_at (f:=cE1 pol Φ r ρ) h).trans (Res.bind_at (f:=cE2 v) h2)
theorem A3{e:CE}{v:Val}(h:ev pol Φ ρ false e σ=.ok (v,σ')):evs pol Φ ρ (.cons e .nil) σ=.ok ([v],σ'):=A7 h rfl
theorem P7{op:Cop}{a b:CE}{v w:Val}{x y:PV}{z:Bool}(h1:ev pol Φ ρ false a σ=.ok (v,σ1))(h2:ev pol Φ ρ false b σ1=.ok (w,σ'))(p1:pk σ' v=some x)(p2:pk σ' w=some y)(h3:cmpP op x y=some z):ev pol Φ ρ m (.cmp op a b) σ=.ok (.v (.bool z),σ'):=by
 refine(Res.bind_at (f:=Aaq pol Φ op b ρ) h1).trans ((Res.bind_at (f:=A2g op v) h2).trans ?_)
 rw[A2f,p1,p2]
 exact congrArg (fun(o:Option Bool)=>Ac (o.map (kBo σ'))) h3
theorem Ag{op:Cop}{a b:CE}{x y:PV}{z:Bool}(h1:ev pol Φ ρ false a σ=.ok (.v x,σ1))(h2:ev pol Φ ρ false b σ1=.ok (.v y,σ'))(h3:cmpP op x y=some z):ev pol Φ ρ m (.cmp op a b) σ=.ok (.v (.bool z),σ'):=P7 h1 h2 rfl rfl h3
theorem D5{a b:CE}{x y:PV}{z:Bool}(h1:ev pol Φ ρ false a σ=.ok (.v x,σ1))(h2:ev pol Φ ρ false b σ1=.ok (.v y,σ'))(h3:eqP x y=some z):ev pol Φ ρ m (.cmp .ne a b) σ=.ok (.v (.bool (!z)),σ'):=Ag h1 h2 (congrArg (Option.map (!·)) h3)
theorem D6{a b:CE}{x y:PV}{z:Bool}(h1:ev pol Φ ρ false a σ=.ok (.v x,σ1))(h2:ev pol Φ ρ false b σ1=.ok (.v y,σ'))(h3:eqP x y=some z):ev pol Φ ρ m (.cmp .eq a b) σ=.ok (.v (.bool z),σ'):=Ag h1 h2 h3
theorem Vq{op:Bop}{a b:CE}{v w:Val}{x y:PV}{z:Val×Sto}(h1:ev pol Φ ρ false a σ=.ok (v,σ1))(h2:ev pol Φ ρ false b σ1=.ok (w,σ'))(p1:pk σ' v=some x)(p2:pk σ' w=some y)(h3:binP op m x y σ'=some z):ev pol Φ ρ m (.bin op a b) σ=.ok z:=by
 refine(Res.bind_at (f:=Aar pol Φ op m b ρ) h1).trans ((Res.bind_at (f:=A2i op m v) h2).trans ?_)
 rw[A2h,p1,p2]
 exact congrArg Ac h3
theorem D2{op:Bop}{a b:CE}{x y:PV}{z:Val×Sto}(h1:ev pol Φ ρ false a σ=.ok (.v x,σ1))(h2:ev pol Φ ρ false b σ1=.ok (.v y,σ'))(h3:binP op m x y σ'=some z):ev pol Φ ρ m (.bin op a b) σ=.ok z:=Vq h1 h2 rfl rfl h3
theorem Aj{o i:CE}{v:Val}{x k y:PV}(h1:ev pol Φ ρ false o σ=.ok (v,σ1))(h2:ev pol Φ ρ false i σ1=.ok (.v k,σ'))(p1:pk σ' v=some x)(h3:subP x k=some y):ev pol Φ ρ m (.sub o i) σ=.ok (.v y,σ'):=by
 refine(Res.bind_at (f:=A6c pol Φ i ρ) h1).trans ((Res.bind_at (f:=A29 v) h2).trans ?_)
 rw[A28,p1]
 exact congrArg (fun(o:Option PV)=>Ac (o.map (kV σ'))) h3
theorem Fd{es:CEs}{vs:List Val}{ps:List PV}(h:evs pol Φ ρ es σ=.ok (vs,σ1))(h2:frzs σ1 vs=some (ps,σ')):ev pol Φ ρ m (.tupE es) σ=.ok (.v (.tup ps),σ'):=(Res.bind_at (f:=cTup) h).trans (congrArg (fun(o:Option (List PV×Sto))=>Ac (o.map kTup)) h2)
theorem Ff{es:CEs}{vs:List Val}{ps:List PV}(h:evs pol Φ ρ es σ=.ok (vs,σ1))(h2:frzs σ1 vs=some (ps,σ')):ev pol Φ ρ false (.lstE es) σ=.ok (.v (.lst ps),σ'):=(Res.bind_at (f:=cLst false) h).trans (congrArg (fun(o:Option (List PV×Sto))=>Ac (o.map (kLst false))) h2)
theorem En{a b:CE}{x y:List PV}(h1:ev pol Φ ρ false a σ=.ok (.v (.lst x),σ1))(h2:ev pol Φ ρ false b σ1=.ok (.v (.lst y),σ'))(h3:decide (x.length+y.length≤4096)=true):ev pol Φ ρ false (.bin .add a b) σ=.ok (.v (.lst (x++y)),σ'):=D2 h1 h2 (if_pos h3)
theorem Bf{e:CE}{v:Val}{xs:List PV}(h:ev pol Φ ρ false e σ=.ok (v,σ'))(p:pk σ' v=some (.lst xs))(hl:xs.length≤4096):ev pol Φ ρ m (.callB .len (.cons e .nil)) σ=.ok (.v (.int xs.length),σ'):=by
 refine(Res.bind_at (f:=Qh .len m) (A3 h)).trans ?_
 rw[Oc,Y7,p]
 exact congrArg Ac (if_pos (decide_eq_true hl))
theorem Au{b:Bid}{es:CEs}{vs:List Val}{z:Val×Sto}(h:evs pol Φ ρ es σ=.ok (vs,σ1))(h2:callB b m vs σ1=some z):ev pol Φ ρ m (.callB b es) σ=.ok z:=(Res.bind_at (f:=Qh b m) h).trans (congrArg Ac h2)
theorem G3{k:Mid}{o:CE}{es:CEs}{v:Val}{t:Ty}{vs:List Val}{z:Val×Sto}(h1:ev pol Φ ρ false o σ=.ok (v,σ1))(ty:tyOf σ1 v=some t)(ho:okM k t=true)(h2:evs pol Φ ρ es σ1=.ok (vs,σ2))(ty2:tyOf σ2 v=some t)(h3:Ih k v vs σ2=some z):ev pol Φ ρ m (.meth k o es) σ=.ok z:=
 (Res.bind_at (f:=Aam pol Φ k es ρ) h1).trans ((congrArg (A5y pol Φ k v es ρ σ1) ty).trans ((if_pos ho).trans ((Res.bind_at (f:=A2d k v t) h2).trans ((if_pos ty2).trans (congrArg Ac h3)))))
theorem Vr{o e:CE}{k:Nat}{xs ys:List PV}{x:PV}(h1:ev pol Φ ρ false o σ=.ok (.h k,σ1))(l1:σ1[k]?=some (.list ys))(h2:ev pol Φ ρ false e σ1=.ok (.v x,σ2))(l2:σ2[k]?=some (.list xs))(hs:xs.length≤4096):ev pol Φ ρ m (.meth .append o (.cons e .nil)) σ=.ok (.v .none,σ2.set k (.list (xs++[x]))):=by
 refine G3 h1 (congrArg (fun(o:Option PO)=>o.bind tyO) l1) rfl (A3 h2) (congrArg (fun(o:Option PO)=>o.bind tyO) l2) ?_
 refine(congrArg (fun(o:Option PO)=>o.bind fun o=>Vx o fun xs=>if small xs.length then some (Val.v .none,σ2.set k (.list (xs++[x])))else none) l2).trans ?_
 exact if_pos (decide_eq_true hs)
theorem B2{o e:CE}{k:Nat}{xs:List PV}{x:PV}(h1:ev pol Φ ρ false o σ=.ok (.h k,σ))(hl:σ[k]?=some (.list xs))(h2:ev pol Φ ρ false e σ=.ok (.v x,σ))(hs:xs.length≤4096):ev pol Φ ρ m (.meth .append o (.cons e .nil)) σ=.ok (.v .none,σ.set k (.list (xs++[x]))):=Vr h1 hl h2 hl hs
theorem Aq{elt it:CE}{ifs:CEs}{nv:Nat}{v:Val}{x:PV}{xs ys:List PV}(h:ev pol Φ ρ false it σ=.ok (v,σ1))(h1:frz σ1 v=some (x,σ2))(h2:Az x=some xs)(hl:xs.length≤4096)(hb:Gr pol Φ elt ifs nv ρ xs [] σ2=.ok (ys,σ')):ev pol Φ ρ m (.comp elt it ifs nv) σ=.ok (mk m ys σ'):=by
 refine(Res.bind_at (f:=Aap pol Φ elt ifs nv m ρ) h).trans ((congrArg (A0o pol Φ elt ifs nv m ρ) h1).trans ((congrArg (A84 pol Φ elt ifs nv m ρ σ2) h2).trans ((if_pos (decide_eq_true hl)).trans ?_)))
 exact congrArg (fun r=>(Res.noX r).bind (A1x m)) hb
theorem A9j{o k:CE}{d i:Nat}{v kv:Val}{x:PV}(h1:ev pol Φ ρ false o σ=.ok (v,σ1))(hg:getV ρ d i=some (.v x))(ty:tyOf σ1 v=some .dict)(h2:ev pol Φ ρ false k σ1=.ok (kv,σ2))(h3:sdApp v kv x σ2=some σ'):ev pol Φ ρ m (.sdApp o k d i) σ=.ok (.v .none,σ'):=by
 refine(congrArg (fun z=>(ev pol Φ ρ false o σ).bind (cSd pol Φ z k ρ)) hg).trans ((Res.bind_at (f:=cSd pol Φ (some (.v x)) k ρ) h1).trans ((if_pos ty).trans ((Res.bind_at (f:=cSd2 v x) h2).trans ?_)))
 exact congrArg (fun(o:Option Sto)=>Ac (o.map kSt)) h3
theorem A64{c:CE}{z:Bool}(h:ev pol Φ ρ false c σ=.ok (.v (.bool z),σ')):E9 pol Φ ρ (.cons c .nil) σ=.ok (z,σ'):=(congrArg (fun r=>(Ar r).bind (cIfs pol Φ .nil ρ)) h).trans (by induction z using Bool.casesOn<;>rfl)
theorem Fe{a b:CE}{z:Bool}(h1:ev pol Φ ρ false a σ=.ok (.v (.bool false),σ1))(h2:ev pol Φ ρ false b σ1=.ok (.v (.bool z),σ')):ev pol Φ ρ m (.boolE false (.cons a (.cons b .nil))) σ=.ok (.v (.bool z),σ'):=
 (congrArg (fun r=>(Ar r).bind (cBo pol Φ false (.cons b .nil) ρ)) h1).trans ((congrArg (fun r=>(Ar r).bind (cBo pol Φ false .nil ρ)) h2).trans (by induction z using Bool.casesOn<;>rfl))
theorem P6{a:CE}{es:CEs}(h1:ev pol Φ ρ false a σ=.ok (.v (.bool true),σ')):ev pol Φ ρ m (.boolE false (.cons a es)) σ=.ok (.v (.bool true),σ'):=congrArg (fun r=>(Ar r).bind (cBo pol Φ false es ρ)) h1
theorem Zl{o e:CE}{k:Nat}{xs ys:List PV}(h1:ev pol Φ ρ false o σ=.ok (.h k,σ))(hl:σ[k]?=some (.list xs))(h2:ev pol Φ ρ false e σ=.ok (.v (.lst ys),σ))(hs:xs.length+ys.length≤4096):ev pol Φ ρ m (.meth .extend o (.cons e .nil)) σ=.ok (.v .none,σ.set k (.list (xs++ys))):=by
 have ty:tyOf σ (.h k)=some .list:=congrArg (fun(o:Option PO)=>o.bind tyO) hl
 refine G3 h1 ty rfl (A3 h2) ty ?_
 refine(congrArg (fun(o:Option PO)=>o.bind fun o=>Vx o fun xs=>if small (xs.length+ys.length)then some (Val.v .none,σ.set k (.list (xs++ys)))else none) hl).trans ?_
 exact if_pos (decide_eq_true hs)
theorem A7m{e:CE}{r:CEs}{x:PV}{s t:Cs}(h:ev pol Φ ρ false e σ=.ok (.v x,σ1))(h1:He x=some s)(h2:evT pol Φ ρ r σ1=.ok (t,σ')):evT pol Φ ρ (.cons e r) σ=.ok (s++t,σ'):=by
 refine(congrArg (fun r0=>(Res.bind r0 Ko).bind (cT1 pol Φ r ρ)) h).trans ?_
 refine(congrArg (fun(o:Option Cs)=>((Ac o).bind (kTx σ1)).bind (cT1 pol Φ r ρ)) h1).trans (Res.bind_at (f:=cT2 s) h2)
theorem A7k{es:CEs}{t:Cs}(h:evT pol Φ ρ es σ=.ok (t,σ'))(hl:t.length≤4096):ev pol Φ ρ m (.fstr es) σ=.ok (.v (.str t),σ'):=(Res.bind_at (f:=cFst) h).trans (if_pos (decide_eq_true hl))
theorem Bk{i:Nat}{b:CSs}{x:PV}{xs:List PV}(h1:exs pol Φ b (setV ρ i (.v x)) σ=.ok (.next,ρ',σ'))(k:forB pol Φ i b xs ρ' σ'=R):forB pol Φ i b (x::xs) ρ σ=R:=(Res.bind_at h1).trans k
theorem B4{elt:CE}{nv:Nat}{x y:PV}{xs acc:List PV}{R:Res (List PV×Sto)}(h:ev pol Φ ((some (Val.v x)::List.replicate nv none)::ρ) false elt σ=.ok (.v y,σ'))(k:Gr pol Φ elt .nil nv ρ xs (acc++[y]) σ'=R):Gr pol Φ elt .nil nv ρ (x::xs) acc σ=R:=(Res.bind_at h).trans k
theorem Z5{s:Cs}:eqP (.str s) (.str s)=some true:=congrArg some (decide_eq_true rfl)
theorem A0r{s t sep:Cs}(h:(s++sep++t).length+sep.length≤4096):Ih .join (.v (.str sep)) [.v (.lst [.str s,.str t])] σ=some (.v (.str (s++sep++t)),σ):=congrArg (fun(o:Option PV)=>o.map fun r=>(Val.v r,σ)) (if_pos (decide_eq_true h))
theorem A7i{a b:CE}{x y:Bool}(h1:ev pol Φ ρ false a σ=.ok (.v (.bool x),σ))(h2:ev pol Φ ρ false b σ=.ok (.v (.bool y),σ)):ev pol Φ ρ m (.boolE false (.cons a (.cons b .nil))) σ=.ok (.v (.bool (x||y)),σ):=by
 induction x using Bool.casesOn
 ·exact Fe h1 h2
 ·exact P6 h1
theorem A7h{o:CE}{xs:List PV}(h:ev pol Φ ρ false o σ=.ok (.v (.lst xs),σ'))(hl:xs.length≤4096):ev pol Φ ρ m (.slcRev o) σ=.ok (mk m xs.reverse σ'):=(Res.bind_at (f:=cRev m) h).trans (congrArg Ac (if_pos (show small xs.length=true from decide_eq_true hl)))
theorem Ll{o i:CE}{x:PV}{j:Int}{z:Val×Sto}(h:ev pol Φ ρ false o σ=.ok (.v x,σ1))(h2:ev pol Φ ρ false i σ1=.ok (.v (.int j),σ'))(h3:slcP none (some j) x m σ'=some z):ev pol Φ ρ m (.slcTo o i) σ=.ok z:=(Res.bind_at (f:=Aak pol Φ m i ρ) h).trans ((Res.bind_at (f:=A6d m (.v x)) h2).trans (congrArg Ac h3))
theorem Tn{o i:CE}{x:PV}{j:Int}{z:Val×Sto}(h:ev pol Φ ρ false o σ=.ok (.v x,σ1))(h2:ev pol Φ ρ false i σ1=.ok (.v (.int j),σ'))(h3:slcP (some j) none x m σ'=some z):ev pol Φ ρ m (.slcFrom o i) σ=.ok z:=(Res.bind_at (f:=Aal pol Φ m i ρ) h).trans ((Res.bind_at (f:=A6e m (.v x)) h2).trans (congrArg Ac h3))
theorem G4{c:CE}{v:Val}{xs:List PV}(h:ev pol Φ ρ false c σ=.ok (v,σ'))(p:pk σ' v=some (.lst xs))(hl:xs.length≤4096):ev pol Φ ρ m (.callB .list (.cons c .nil)) σ=.ok (mk m xs σ'):=by
 refine(Res.bind_at (f:=Qh .list m) (A3 h)).trans ?_
 rw[Oc,Un,p]
 exact congrArg Ac (if_pos (decide_eq_true hl))
theorem Fg{f:Nat}{es:CEs}{vs:List Val}{r:Res (Val×Sto)}(h1:evs pol Φ ρ es σ=.ok (vs,σ1))(h2:Cd pol Φ f m vs σ1=r):ev pol Φ ρ m (.callC f es) σ=r:=(Res.bind_at (f:=Qg pol Φ f m) h1).trans h2
theorem Zk{c:CE}{b:Bool}(h:ev pol Φ ρ false c σ=.ok (.v (.bool b),σ')):ev pol Φ ρ m (.notE c) σ=.ok (.v (.bool (!b)),σ'):=congrArg (fun r=>(Ar r).bind cNot) h
theorem A94{c:CE}{r:CEs}{R:Res (Val×Sto)}(h:ev pol Φ ρ false c σ=.ok (.v (.bool false),σ1))(k:evBo pol Φ ρ false r σ1=R):evBo pol Φ ρ false (.cons c r) σ=R:=(congrArg (fun r0=>(Ar r0).bind (cBo pol Φ false r ρ)) h).trans k
theorem Ck{s r:CSs}{v:Val}(h:exs pol Φ s ρ σ=.ok (.ret v,ρ',σ')):(exs pol Φ s ρ σ).bind (cSeq pol Φ r)=.ok (.ret v,ρ',σ'):=Res.bind_at (f:=cSeq pol Φ r) h
theorem Db{o c:CE}{a:Cs}{r:CSs}{x y:Val}(h1:ev pol Φ ρ m c σ=.ok (x,σ1))(h2:ev pol Φ ρ false o σ1=.ok (y,σ2))(h3:E4 y a x σ2=some σ')(k:exs pol Φ r ρ σ'=R):exs pol Φ (.cons (.setA o a m c) r) ρ σ=R:=by
 refine Eq.trans (Res.bind_at (f:=cSeq pol Φ r) (a:=(.next,ρ,σ')) ?_) k
 refine(Res.bind_at (f:=A91 pol Φ o a ρ) h1).trans ((Res.bind_at (f:=A2c a x ρ) h2).trans ?_)
 exact congrArg (fun(o:Option Sto)=>Ac (o.map (kSto ρ))) h3
theorem A7l{ks:List Cs}{es:CEs}{vs:List Val}{ps:List PV}(h:evs pol Φ ρ es σ=.ok (vs,σ1))(h2:frzs σ1 vs=some (ps,σ'))(h3:ks.length=ps.length∧ks.length≤15):ev pol Φ ρ m (.dctE ks es) σ=.ok (mkD m ((ks.zip ps).foldl (fun es kx=>put kx.1 kx.2 es) []) σ'):=
 (Res.bind_at (f:=cDct m ks) h).trans ((congrArg (fun(o:Option (List PV×Sto))=>Ac (o.bind (kDct m ks))) h2).trans (congrArg Ac (if_pos h3)))
theorem El{c a b:CE}{R:Res (Val×Sto)}(h:ev pol Φ ρ false c σ=.ok (.v (.bool true),σ'))(k:ev pol Φ ρ m a σ'=R):ev pol Φ ρ m (.ite c a b) σ=R:=(congrArg (fun r=>(Ar r).bind (cIte pol Φ m a b ρ)) h).trans k
theorem Co{c a b:CE}{R:Res (Val×Sto)}(h:ev pol Φ ρ false c σ=.ok (.v (.bool false),σ'))(k:ev pol Φ ρ m b σ'=R):ev pol Φ ρ m (.ite c a b) σ=R:=(congrArg (fun r=>(Ar r).bind (cIte pol Φ m a b ρ)) h).trans k
theorem Al{e:CE}{v:Val}{a:Cs}{y:PV}(h:ev pol Φ ρ false e σ=.ok (v,σ'))(h2:T0 v a σ'=some (.v y))(h3:rawV (.v y)=false):ev pol Φ ρ m (.attr e a) σ=.ok (.v y,σ'):=
 (Res.bind_at (f:=A6g a) h).trans ((congrArg (fun(o:Option Val)=>Ac (o.bind (A0p σ'))) h2).trans (congrArg (fun(b:Bool)=>Ac (if b=true then none else some (Val.v y,σ'))) h3))
theorem Di{a b:CE}{z:Bool}(h1:ev pol Φ ρ false a σ=.ok (.v (.bool true),σ1))(h2:ev pol Φ ρ false b σ1=.ok (.v (.bool z),σ')):ev pol Φ ρ m (.boolE true (.cons a (.cons b .nil))) σ=.ok (.v (.bool z),σ'):=
 (congrArg (fun r=>(Ar r).bind (cBo pol Φ true (.cons b .nil) ρ)) h1).trans ((congrArg (fun r=>(Ar r).bind (cBo pol Φ true .nil ρ)) h2).trans (by induction z using Bool.casesOn<;>rfl))
theorem Em{a:CE}{es:CEs}(h1:ev pol Φ ρ false a σ=.ok (.v (.bool false),σ')):ev pol Φ ρ m (.boolE true (.cons a es)) σ=.ok (.v (.bool false),σ'):=congrArg (fun r=>(Ar r).bind (cBo pol Φ true es ρ)) h1
theorem Qu{i:Nat}{op:Bop}{e:CE}{r:CSs}{a b:Int}{z:Val×Sto}(h0:getV ρ 0 i=some (.v (.int a)))(h:ev pol Φ ρ false e σ=.ok (.v (.int b),σ1))(h2:binP op false (.int a) (.int b) σ1=some z)(k:exs pol Φ r (setV ρ i z.1) z.2=R):exs pol Φ (.cons (.aug i op e) r) ρ σ=R:=by
 refine Eq.trans (Res.bind_at (f:=cSeq pol Φ r) (a:=(.next,setV ρ i z.1,z.2)) ?_) k
 refine(congrArg (augK (ev pol Φ ρ false e σ) i op ρ) h0).trans ((Res.bind_at (f:=augB i op a ρ) h).trans ?_)
 exact congrArg (fun(o:Option (Val×Sto))=>Ac (o.map (kAs i ρ))) h2
theorem Aa6{a b:Nat}(h:a<b):cmpP .lt (.int a) (.int b)=some true:=congrArg some (decide_eq_true (Int.ofNat_lt.mpr h))
theorem Aa5{a b:Nat}(h:¬a<b):cmpP .lt (.int a) (.int b)=some false:=congrArg some (decide_eq_false fun q=>h (Int.ofNat_lt.mp q))
theorem Il{c:CE}{b:CSs}{n:Nat}{z:Bool}(h:ev pol Φ ρ false c σ=.ok (.v (.bool z),σ))(k:cWh pol Φ c b n ρ (z,σ)=R):whB pol Φ c b (n+1) ρ σ=R:=(congrArg (fun r=>(Ar r).bind (cWh pol Φ c b n ρ)) h).trans k
theorem Oj{c:CE}{b:CSs}{n:Nat}(h:exs pol Φ b ρ σ=.ok (.next,ρ',σ'))(k:whB pol Φ c b n ρ' σ'=R):cWh pol Φ c b n ρ (true,σ)=R:=(Res.bind_at (f:=cWh2 pol Φ c b n) h).trans k
theorem Cv{x:PO}:(σ++[x])[σ.length]?=some x:=List.getElem?_concat_length
theorem Es{x y:PO}:(σ++[x]).set σ.length y=σ++[y]:=by simp
end
end Mine.Internal
namespace Mine.Internal
open PySem
noncomputable abbrev A9:Cs:=[105,110,116,101,103,101,114]
noncomputable abbrev A8:Cs:=[99,104,97,114,97,99,116,101,114]
noncomputable abbrev Bw:Cs:=[108,111,103,105,99,97,108]
noncomputable abbrev Dg:Cs:=[100,111,117,98,108,101]
noncomputable abbrev A6y:Cs:=[108,105,115,116]
noncomputable abbrev Oo:Cs:=[110,97,109,101,115]
noncomputable abbrev A2z:Cs:=[99,108,97,115,115]
noncomputable abbrev Jm:Cs:=[114,111,119,46,110,97,109,101,115]
noncomputable abbrev Eh:Cs:=[100,97,116,97,46,102,114,97,109,101]
noncomputable abbrev A6z:Cs:=[107,105,110,100]
noncomputable abbrev Kf:Cs:=[105,116,101,109,115]
noncomputable abbrev Op:Cs:=[97,116,116,114,115]
noncomputable abbrev Iq:Cs:=[107]
noncomputable abbrev Qo:Cs:=[108]
noncomputable abbrev Ce:Cs:=[112]
noncomputable abbrev Ee:Cs:=[113]
noncomputable abbrev T8:Cs:=[107,107]
noncomputable abbrev T7:Cs:=[108,108]
noncomputable abbrev t_x:Cs:=[120]
noncomputable abbrev t_y:Cs:=[121]
noncomputable abbrev Ms:Cs:=[98,121]
noncomputable abbrev Gu:Cs:=[98,121,46,120]
noncomputable abbrev Gs:Cs:=[98,121,46,121]
noncomputable abbrev Vf:Cs:=[97,108,108]
noncomputable abbrev Br:Cs:=[97,108,108,46,120]
noncomputable abbrev Bq:Cs:=[97,108,108,46,121]
noncomputable abbrev On:Cs:=[115,111,114,116]
noncomputable abbrev Eg:Cs:=[115,117,102,102,105,120,101,115]
noncomputable abbrev Qq:Cs:=[46,120]
noncomputable abbrev Qp:Cs:=[46,121]
noncomputable abbrev Oq:Cs:=[46,49]
noncomputable abbrev t_P:Cs:=[43]
noncomputable abbrev A5d:Cs:=[112,46,49]
noncomputable abbrev A9c:Cs:=[112,43]
noncomputable abbrev icol(xs:List PV):PV:=.vec (.str A9) (.lst xs) .none
noncomputable abbrev ccol(xs:List PV):PV:=.vec (.str A8) (.lst xs) .none
noncomputable abbrev frm(cols names rl:List PV):PV:=.vec (.str A6y) (.lst cols) (.dct [(Oo,ccol names),(A2z,ccol [.str Eh]),(Jm,icol rl)])
section
variable {Φ:Phi} {ρ:PEnv} {σ σ':Sto} {m:Bool} {n:Nat} {k i a:PV} {xs:List PV}
theorem Lx{fs:List (Cs×Val)}:norm (σ++[.inst 0 fs]) (.h σ.length)=.h σ.length:=congrArg (No σ.length) Cv
theorem Ku{fs:List (Cs×Val)}{at':Cs}{x:Val}(h:fs.length≤4096):E4 (.h σ.length) at' x (σ++[.inst 0 fs])=some (σ++[.inst 0 (put at' x fs)]):=by
 show((σ++[PO.inst 0 fs])[σ.length]?.bind _)=_
 rw[Cv]
 show(if small fs.length=true then some ((σ++[PO.inst 0 fs]).set σ.length (.inst 0 (put at' x fs)))else none)=_
 rw[Es]
 exact if_pos (decide_eq_true h)
theorem Nx(σ:Sto):phi pol codes (n+1) 4 [.h σ.length,.v k,.v i,.v a] (σ++[.inst 0 []])=.ok (.v .none,σ++[.inst 0 [(cKind,.v k),(cItems,.v i),(cAttrs,.v a),(cShared,.v (.bool false)),(cLoose,.v (.bool false))]]):=
 (H0 (c:=Bs) (row:=[some (.h σ.length),some (.v k),some (.v i),some (.v a)]) rfl rfl).trans (congrArg (fun r=>Res.bind r cFin)
  (Db (A0 rfl) (As rfl Lx) (Ku (fs:=[]) (show 0≤4096 by decide)) (Db (A0 rfl) (As rfl Lx) (Ku (fs:=[(cKind,.v k)]) (show 1≤4096 by decide)) (Db (A0 rfl) (As rfl Lx) (Ku (fs:=[(cKind,.v k),(cItems,.v i)]) (show 2≤4096 by decide)) (Db rfl (As rfl Lx) (Ku (fs:=[(cKind,.v k),(cItems,.v i),(cAttrs,.v a)]) (show 3≤4096 by decide)) (Db rfl (As rfl Lx) (Ku (fs:=[(cKind,.v k),(cItems,.v i),(cAttrs,.v a),(cShared,.v (.bool false))]) (show 4≤4096 by decide)) rfl))))))
theorem A62(σ:Sto):phi pol codes (n+1) 4 [.h σ.length,.v k,.v i] (σ++[.inst 0 []])=.ok (.v .none,σ++[.inst 0 [(cKind,.v k),(cItems,.v i),(cAttrs,.v .none),(cShared,.v (.bool false)),(cLoose,.v (.bool false))]]):=by
 rw[←Nx (n:=n),H0 (c:=Bs) (row:=[some (.h σ.length),some (.v k),some (.v i),some (.v .none)]) rfl rfl,H0 (c:=Bs) (row:=[some (.h σ.length),some (.v k),some (.v i),some (.v .none)]) rfl rfl]
theorem init0:pol.initOf 0=4:=rfl
theorem Aa2{fs:List (Cs×Val)}(h:∀τ,frzO τ σ.length (.inst 0 fs)=some (.vec k i a,τ.set σ.length (.froz (.vec k i a)))):Mf false σ.length (.v .none,σ++[.inst 0 fs])=.ok (.v (.vec k i a),σ++[.froz (.vec k i a)]):=by
 show Ac ((((σ++[PO.inst 0 fs])[σ.length]?).bind (frzO (σ++[PO.inst 0 fs]) σ.length)).map kI)=_
 rw[Cv]
 show Ac ((frzO (σ++[PO.inst 0 fs]) σ.length (.inst 0 fs)).map kI)=_
 rw[h,Es];rfl
theorem Cw:Cd pol (phi pol codes (n+1)) 0 false [.v k,.v i] σ=.ok (.v (.vec k i .none),σ++[.froz (.vec k i .none)]):=by
 rw[Jc (ps:=[k,i]) rfl,init0,List.map_cons,List.map_cons,List.map_nil,A62]
 exact Aa2 fun J=>rfl
theorem Uh:Cd pol (phi pol codes (n+1)) 0 false [.v k,.v i,.v a] σ=.ok (.v (.vec k i a),σ++[.froz (.vec k i a)]):=by
 rw[Jc (ps:=[k,i,a]) rfl,init0,List.map_cons,List.map_cons,List.map_cons,List.map_nil,Nx]
 exact Aa2 fun J=>rfl
theorem Y5:Cd pol (phi pol codes (n+1)) 0 true [.v k,.v i] σ=.ok (.h σ.length,σ++[.inst 0 [(cKind,.v k),(cItems,.v i),(cAttrs,.v .none),(cShared,.v (.bool false)),(cLoose,.v (.bool false))]]):=by
 rw[Jc (ps:=[k,i]) rfl,init0,List.map_cons,List.map_cons,List.map_nil,A62];rfl
theorem A3e:A1 pol (phi pol codes (n+1)) 10 false [.v (.vec k i a)] σ=.ok (.v (.vec k i a),σ):=
 A4 (row:=[some (.v (.vec k i a))]) (x:=.vec k i a) rfl rfl rfl rfl rfl
theorem X7(h:xs.length≤4096):A1 pol (phi pol codes (n+2)) 5 false [.v (.lst xs)] σ=.ok (.v (icol xs),σ):=
 A4 (row:=[some (.v (.lst xs))]) (x:=icol xs) rfl rfl rfl rfl (Ab (Aa (Fg (A7 rfl (A3 (G4 (A0 rfl) rfl h))) Cw)) rfl)
theorem Fb(h:xs.length≤4096):A1 pol (phi pol codes (n+2)) 6 false [.v (.lst xs)] σ=.ok (.v (ccol xs),σ):=
 A4 (row:=[some (.v (.lst xs))]) (x:=ccol xs) rfl rfl rfl rfl (Ab (Aa (Fg (A7 rfl (A3 (G4 (A0 rfl) rfl h))) Cw)) rfl)
noncomputable def W2:PV→Prop
 |.vec _ _ _=>True
 |_=>False
theorem Z7{c:PV}(h:W2 c):A1 pol (phi pol codes (n+1)) 10 false [.v c] σ=.ok (.v c,σ):=by
 induction c using PV.casesOn<;>first|exact h.elim|exact A3e
theorem Jo{cols names rl:List PV}(hc:∀c∈cols,W2 c)(h1:cols.length≤4096)(h2:names.length≤4096):
 A1 pol (phi pol codes (n+3)) 37 false [.v (.lst cols),.v (.lst names),.v (icol rl)] σ=.ok (.v (frm cols names rl),σ):=by
 refine A4 (row:=[some (.v (.lst cols)),some (.v (.lst names)),some (.v (icol rl)),none]) (x:=frm cols names rl) rfl rfl rfl rfl (Ab (A5 (Fg (A7 rfl (A3 (Aq (m:=false) (A0 rfl) rfl rfl h1 (Ax (fun c=>c) fun c h=>A2 (A3 (A0 rfl)) (Z7 (hc c h)))))) Y5)
  (Db (A7l (m:=false) (A7 (A2 (A3 (A0 rfl)) (Fb h2)) (A7 (A2 (A3 rfl) (Fb (show 1≤4096 by decide))) (A3 (A0 rfl)))) rfl ⟨rfl,show 3≤15 by decide⟩) (As (y:=.h 0) rfl rfl) rfl (Aa (As (y:=.h 0) rfl rfl)))) ?_)
 rw[List.nil_append,List.map_id'];rfl
end
end Mine.Internal
namespace Mine.Internal
open PySem
section
variable {Φ:Phi} {ρ:PEnv} {σ σ':Sto} {m:Bool} {n:Nat} {k i a:PV} {xs cols names rl:List PV} {kd:Cs}
noncomputable abbrev kcol(kd:Cs)(xs:List PV):PV:=.vec (.str kd) (.lst xs) .none
noncomputable def K2(kd:Cs):Prop:=kd=A9∨kd=A8
theorem Za(hk:K2 kd)(h:xs.length≤4096):A1 pol (phi pol codes (n+1)) 7 false [.v (kcol kd xs)] σ=.ok (.v (.int xs.length),σ):=by
 rcases hk with rfl|rfl<;>
 exact A4 (row:=[some (.v (kcol _ xs)),none]) (x:=.int xs.length) rfl rfl rfl rfl (Ab (A5 (v:=.v (.str _)) rfl (A6 rfl (Ai rfl (Ck (Aa (Bf (v:=.v (.lst xs)) rfl rfl h)))))) rfl)
theorem Ra(σ:Sto):A1 pol (phi pol codes (n+1)) 8 false [.v (.vec k i a)] σ=.ok (.v (.bool true),σ):=
 A4 (row:=[some (.v (.vec k i a))]) (x:=.bool true) rfl rfl rfl rfl rfl
theorem Tf{es:List (Cs×PV)}{nm:Cs}:A1 pol (phi pol codes (n+1)) 11 false [.v (.vec k i (.dct es)),.v (.str nm)] σ=.ok (.v ((look nm es).getD .none),σ):=
 A4 (row:=[some (.v (.vec k i (.dct es))),some (.v (.str nm))]) (x:=(look nm es).getD .none) rfl rfl rfl rfl rfl
theorem Rd:A1 pol (phi pol codes (n+2)) 16 false [.v (frm cols names rl)] σ=.ok (.v (.lst [.str Eh]),σ):=
 A4 (row:=[some (.v (frm cols names rl)),none]) (x:=.lst [.str Eh]) rfl rfl rfl rfl rfl
theorem Cz(hk:K2 kd):A1 pol (phi pol codes (n+3)) 36 false [.v (kcol kd xs)] σ=.ok (.v (.bool false),σ):=by
 rcases hk with rfl|rfl<;>
 exact A4 (row:=[some (.v (kcol _ xs))]) (x:=.bool false) rfl rfl rfl rfl rfl
theorem X8:A1 pol (phi pol codes (n+2)) 15 false [.v (frm cols names rl)] σ=.ok (.v .none,σ):=
 A4 (row:=[some (.v (frm cols names rl)),none]) (x:=.none) rfl rfl rfl rfl rfl
theorem Jp(h:names.length≤4096):A1 pol (phi pol codes (n+3)) 14 false [.v (frm cols names rl)] σ=.ok (.v (.lst names),σ):=
 A4 (row:=[some (.v (frm cols names rl)),none,none,none,none]) (x:=.lst names) rfl rfl rfl rfl (Ab (A6 rfl (A6 rfl (A5 (A2 (A3 (A0 rfl)) X8) (A6 rfl (A5 (v:=.v (.vec (.str A8) (.lst names) .none)) (A2 (A7 (A0 rfl) (A3 rfl)) Tf) (A6 rfl (Aa (G4 (v:=.v (.lst names)) rfl rfl h)))))))) rfl)
theorem R9(hk:kd=Bw∨K2 kd):A1 pol (phi pol codes (n+3)) 14 false [.v (kcol kd xs)] σ=.ok (.v .none,σ):=by
 rcases hk with rfl|rfl|rfl<;>
 exact A4 (row:=[some (.v (kcol _ xs)),none,none,none,none]) (x:=.none) rfl rfl rfl rfl (by kernel_rfl)
noncomputable def isStr:PV→Prop
 |.str _=>True
 |_=>False
theorem Lf(h:names.length≤4096)(hs:∀x∈names,isStr x):A1 pol (phi pol codes (n+4)) 40 false [.v (frm cols names rl)] σ=.ok (.v (.lst names),σ):=by
 refine A4 (row:=[some (.v (frm cols names rl)),none]) (x:=.lst names) rfl rfl rfl rfl (Ab (A5 (A2 (A3 (A0 rfl)) (Jp h)) (Aa (Co (Ag (A0 rfl) rfl rfl) (Aq (A0 rfl) rfl rfl h (Ax (fun c=>c) fun c hc=>by have:=hs c hc;induction c using PV.casesOn<;>first|exact this.elim|rfl))))) ?_)
 rw[List.nil_append,List.map_id'];rfl
theorem Hm(h:rl.length≤4096):A1 pol (phi pol codes (n+1)) 39 false [.v (frm cols names rl)] σ=.ok (.v (.int rl.length),σ):=
 A4 (row:=[some (.v (frm cols names rl))]) (x:=.int rl.length) rfl rfl rfl rfl (Ab (A6 rfl (Aa (Bf (v:=.v (.lst rl)) rfl rfl h))) rfl)
theorem Hk:A1 pol (phi pol codes (n+1)) 41 false [.v (.vec k i .none)] σ=.ok (.v .none,σ):=
 A4 (row:=[some (.v (.vec k i .none)),none,none]) (x:=.none) rfl rfl rfl rfl rfl
theorem X4(hk:K2 kd):A1 pol (phi pol codes (n+1)) 42 false [.v (.str kd)] σ=.ok (.v .none,σ):=by
 rcases hk with rfl|rfl<;>exact A4 (row:=[some (.v (.str _))]) (x:=.none) rfl rfl rfl rfl (by rfl)
theorem Rb(hk:kd=Bw∨K2 kd):A1 pol (phi pol codes (n+1)) 9 false [.v (kcol kd xs)] σ=.ok (.v (.bool true),σ):=by
 rcases hk with rfl|rfl|rfl<;>exact A4 (row:=[some (.v (kcol _ xs))]) (x:=.bool true) rfl rfl rfl rfl (by rfl)
end
end Mine.Internal
namespace Mine.Internal
open PySem
section
variable {Φ:Phi} {ρ:PEnv} {σ σ':Sto} {m:Bool} {n:Nat} {k i a:PV} {xs cols names rl:List PV} {kd:Cs}
noncomputable def kCls(pol:Pol)(Φ:Phi)(c:Nat)(m:Bool):Option (List PV×Sto)→Res (Val×Sto)
 |none=>.stk
 |some (ps,σ)=>Cd pol Φ c m (ps.map .v) σ
theorem Nv{c:Nat}{ps:List PV}:kCls pol Φ c m (some (ps,σ))=Cd pol Φ c m (ps.map .v) σ:=rfl
theorem Sn{c:Nat}{vs:List Val}:Cd pol Φ c m vs σ=kCls pol Φ c m (frzs σ vs):=by
 cases h:frzs σ vs with
 |none=>exact congrArg (Fr _) h
 |some q=>exact(congrArg (Fr _) h).trans (congrArg (Fr _) (A15 q.1)).symm
@[simp] theorem A85:kCls pol (phi pol codes (n+1)) 0 false (some ([k,i,a],σ))=.ok (.v (.vec k i a),σ++[.froz (.vec k i a)]):=by
 rw[Nv];exact Uh
@[simp] theorem A86:kCls pol (phi pol codes (n+1)) 0 false (some ([k,i],σ))=.ok (.v (.vec k i .none),σ++[.froz (.vec k i .none)]):=by
 rw[Nv];exact Cw
theorem Zm{es:CEs}{vs:List Val}{σ1:Sto}(h:evs pol (phi pol codes (n+1)) ρ es σ=.ok (vs,σ1))(h2:frzs σ1 vs=some ([k,i,a],σ')):ev pol (phi pol codes (n+1)) ρ false (.callC 0 es) σ=.ok (.v (.vec k i a),σ'++[.froz (.vec k i a)]):=
 (Res.bind_at (f:=Qg pol (phi pol codes (n+1)) 0 false) h).trans (Sn.trans ((congrArg (kCls pol (phi pol codes (n+1)) 0 false) h2).trans A85))
noncomputable def Ao(items:List PV)(x:PV):PV:=(pInt x fun i=>items[i.toNat]?).getD .none
theorem Lq{items:List PV}{i:Int}:Ao items (.int i)=(items[i.toNat]?).getD .none:=rfl
theorem Lo{items:List PV}:Ao items .none=.none:=rfl
noncomputable def PlOk(L:Nat):PV→Prop
 |.none=>True
 |.int i=>0≤i∧i<L
 |_=>False
theorem Xv{β:Type}(g:PV→β)(xs:List PV):∀(acc:List β),xs.foldl (fun a x=>a++[g x]) acc=acc++xs.map g:=by
 induction xs with
 |nil=>
  intro acc
  simp
 |cons x xs ih=>
  intro acc
  have:=ih (acc++[g x])
  rw[List.foldl_cons,this];simp
theorem M9{i:Nat}{b:CSs}{xs:List PV}(R:Option Val→PEnv)(g:PV→PV)
 (h:∀pre z x post,xs=pre++x::post→exs pol Φ b (setV (R z) i (.v x)) [.list (pre.map g)]=.ok (.next,R (some (.v x)),[.list (pre.map g++[g x])])) {z:Option Val}:
 forB pol Φ i b xs (R z) [.list []]=.ok (.next,R (Ch z xs),[.list (xs.map g)]):=by
 have:=J8 (Φ:=Φ) (i:=i) (b:=b) (xs:=xs) (fun z (_:List PV)=>R z) (fun acc=>[.list acc]) (fun acc x=>acc++[g x]) (fun pre acc=>acc=pre.map g)
  (fun pre z acc x post e hi=>⟨by subst hi;exact h pre z x post e,by rw[hi];simp⟩) (z:=z) (s:=[]) rfl
 rw[this,Xv];simp
theorem Ub{β:Type}(g:PV→List β)(xs:List PV):∀(acc:List β),xs.foldl (fun a x=>a++g x) acc=acc++xs.flatMap g:=by
 induction xs with
 |nil=>
  intro acc
  simp
 |cons x xs ih=>
  intro acc
  have:=ih (acc++g x)
  rw[List.foldl_cons,this];simp
theorem A07{L:Nat}{j:Int}(hL:L≤4096)(h0:0≤j)(h1:j<L):Ew L j=some j.toNat:=by
 unfold Ew
 rw[if_pos (show small L=true from decide_eq_true hL),if_pos h0,if_pos ((Int.toNat_lt h0).mpr h1)]
theorem Ks{j:Int}(hL:xs.length≤4096)(h0:0≤j)(h1:j<xs.length):subP (.lst xs) (.int j)=some ((xs[j.toNat]?).getD .none):=by
 have hj:j.toNat<xs.length:=(Int.toNat_lt h0).mpr h1
 simp only[Vi,A07 hL h0 h1,Option.bind_some,List.getElem?_eq_getElem hj,Option.getD_some]
theorem Kr{i:Nat}(hl:xs.length≤4096)(hi:i<xs.length):subP (.lst xs) (.int i)=some xs[i]:=
 (Ks hl (Int.natCast_nonneg i) (Int.ofNat_lt.mpr hi)).trans (congrArg (fun(o:Option PV)=>some (o.getD .none)) (List.getElem?_eq_getElem hi))
theorem F8{β:Type}{f:β→PV}{xs:List β}{i:Nat}(hl:xs.length≤4096)(hi:i<xs.length):subP (.lst (xs.map f)) (.int i)=some (f xs[i]):=
 (Kr (Nat.le_trans (Nat.le_of_eq (List.length_map _)) hl) (Nat.lt_of_lt_of_eq hi (List.length_map _).symm)).trans (congrArg some (List.getElem_map _))
theorem Zn{β:Type}{xs pre post:List β}{x:β}(e:xs=pre++x::post):pre.length<xs.length:=by
 rw[e,List.length_append]
 exact Nat.lt_add_of_pos_right (Nat.succ_pos _)
theorem Fi{β:Type}{xs pre post:List β}{x:β}{k:Nat}(e:xs=pre++x::post)(h:xs.length≤k):pre.length≤k:=Nat.le_of_lt (Nat.lt_of_lt_of_le (Zn e) h)
theorem V4{β:Type}{a b:List β}{k:Nat}(h:(a++b).length≤k):a.length≤k:=Nat.le_trans (by rw[List.length_append];exact Nat.le_add_right _ _) h
theorem Hb{a b k:Nat}(h:a+b≤k):a≤k:=Nat.le_trans (Nat.le_add_right a b) h
theorem Qi{n:Nat}(h:n≤4096):bnd (n:Int)=true:=by
 unfold bnd
 rw[decide_eq_true (Int.le_trans (by decide) (Int.natCast_nonneg n)),decide_eq_true (show(n:Int)≤4096 from Int.ofNat_le.mpr h)];rfl
theorem Vj{β:Type}{a:Nat}{pre:List β}{x:β}(h:a≤pre.length+1):a≤(pre++[x]).length:=by rw[List.length_append];exact h
noncomputable abbrev piW(kd:Cs)(xs places:List PV)(a b c:Option Val):List (Option Val):=[some (.v (kcol kd xs)),some (.v (.lst places)),a,b,c]
set_option tactic.hygienic true in
theorem Cl(hk:K2 kd){places:List PV}(hp:∀x∈places,PlOk xs.length x)(h1:xs.length≤4096)(h2:places.length≤4096):
 A1 pol (phi pol codes (n+2)) 43 false [.v (kcol kd xs),.v (.lst places)] σ=.ok (.v (kcol kd (places.map (Ao xs))),σ):=by
 refine A4 (row:=piW kd xs places none none none) (x:=kcol kd (places.map (Ao xs))) rfl rfl rfl rfl (Ab (A5 (v:=.h 0) rfl (A5 (Bf (Al (A0 rfl) rfl rfl) rfl h1) (Am (A0 rfl) rfl rfl
  (M9 (fun z=>[piW kd xs places (some (.h 0)) (some (.v (.int xs.length))) z]) (Ao xs) (fun pre z x post e=>?_)) (Aa (Zm (A7 (Al (A0 rfl) rfl rfl) (A7 (As rfl rfl) (A3 (A2 (A3 (A0 rfl)) Hk)))) rfl))))) rfl)
 have hx:=hp x (by rw[e];exact List.mem_append_right _ List.mem_cons_self)
 have hl:(pre.map (Ao xs)).length≤4096:=Nat.le_trans (Nat.le_of_eq (List.length_map _)) (Fi e h2)
 induction x using PV.casesOn<;>first|exact hx.elim|skip
 ·exact Ai (P6 (Ag (A0 rfl) rfl rfl)) (B8 (Af (B2 (As rfl rfl) rfl (A2 (A3 (Al (A0 rfl) rfl rfl)) (X4 hk)) hl) rfl) rfl)
 ·exact Ej (Fe (Ag (A0 rfl) rfl rfl) (Ag (A0 rfl) (A0 rfl) (congrArg some (decide_eq_false (Int.not_le.mpr hx.2))))) (B8 (Af (B2 (As rfl rfl) rfl (Aj (Al (A0 rfl) rfl rfl) (A0 rfl) rfl (Ks h1 hx.1 hx.2)) hl) rfl) rfl)
end
end Mine.Internal
namespace Mine.Internal
open PySem
section
variable {Φ:Phi} {ρ:PEnv} {σ σ':Sto} {m:Bool} {n:Nat} {k i a:PV} {xs cols names rl:List PV} {kd:Cs}
inductive KI:PV→Prop
 |none:KI .none
 |z0:KI (.int 0)
 |z1:KI (.int 1)
 |z2:KI (.int 2)
inductive LI:PV→Prop
 |m:LI (.str [109])
 |n:LI (.str [110])
noncomputable def lab(x:PV):PV:=((pInt x fun i=>some (.str (B3 i)))).getD x
noncomputable def toD(x:PV):PV:=((pInt x fun i=>some (.tup [.int i,.int 1]))).getD x
noncomputable def kt(x:PV):Cs:=((Nl x (some [78,65])).or ((pInt x fun i=>some (61::B3 i)).or (pStr x fun s=>some (61::s)))).getD []
theorem K2i:K2 A9:=.inl rfl
theorem K2c:K2 A8:=.inr rfl
noncomputable def ItOk(kd:Cs)(x:PV):Prop:=(kd=A9∧KI x)∨(kd=A8∧LI x)
theorem A61:B3 0=[48]:=by decide+kernel
theorem A60:B3 1=[49]:=by decide+kernel
theorem W5:B3 2=[50]:=by decide+kernel
theorem Aa7{j:Int}(hj:(-1000000<j&&j<1000000)=true):A1 pol (phi pol codes (n+1)) 12 false [.v (.str A9),.v (.int j)] σ=.ok (.v (.str (B3 j)),σ):=
 A4 (row:=[some (.v (.str A9)),some (.v (.int j))]) (x:=.str (B3 j)) rfl rfl rfl rfl (Ab (A6 rfl (A6 rfl (Ai rfl (Ck (Aa (Au (A3 (A0 rfl)) (if_pos hj))))))) rfl)
theorem Ox{x:PV}(h:ItOk kd x):A1 pol (phi pol codes (n+1)) 12 false [.v (.str kd),.v x] σ=.ok (.v (lab x),σ):=by
 rcases h with⟨rfl,h⟩|⟨rfl,h⟩
 ·cases h
  ·exact A4 (row:=[some (.v (.str A9)),some (.v .none)]) (x:=.none) rfl rfl rfl rfl rfl
  all_goals exact Aa7 rfl
 ·cases h<;>exact A4 (row:=[some (.v (.str A8)),some (.v (.str _))]) (x:=.str _) rfl rfl rfl rfl rfl
theorem Dx(hk:∀x∈xs,ItOk kd x)(hk2:K2 kd)(hl:xs.length≤4096):A1 pol (phi pol codes (n+2)) 13 false [.v (kcol kd xs)] σ=.ok (.v (.lst (xs.map lab)),σ):=
 A4 (row:=[some (.v (kcol kd xs)),none,none]) (x:=.lst (xs.map lab)) rfl rfl rfl rfl (Ab (A5 (v:=.v .none) rfl (A6 rfl (Aa (Aq (Al (A0 rfl) rfl rfl) rfl rfl hl (Ax lab fun c hc=>A2 (A7 (Al (A0 rfl) rfl rfl) (A3 (A0 rfl))) (Ox (hk c hc))))))) rfl)
theorem Tg(h:KI a):A1 pol (phi pol codes (n+1)) 0 false [.v a] σ=.ok (.v (toD a),σ):=by
 cases h<;>exact A4 (row:=[some (.v _)]) (x:=toD _) rfl rfl rfl rfl (by rfl)
theorem Qz(h:KI a){b:PV}:A1 pol (phi pol codes (n+2)) 29 false [.v (.str A9),.v a,.v b] σ=.ok (.v (toD a),σ):=by
 have key:∀{c:PV},KI c→c≠.none→A1 pol (phi pol codes (n+2)) 29 false [.v (.str A9),.v c,.v b] σ=.ok (.v (toD c),σ):=fun{c} h hn=>by
  refine A4 (row:=[some (.v (.str A9)),some (.v c),some (.v b)]) (x:=toD c) rfl rfl rfl rfl (Ab (A6 (Fe rfl (Ag (A0 rfl) rfl ?_)) (A6 rfl (Aa (A2 (A3 (A0 rfl)) (Tg h))))) rfl)
  cases h<;>first|rfl|exact absurd rfl hn
 cases h with
 |none=>exact A4 (row:=[some (.v (.str A9)),some (.v .none),some (.v b)]) (x:=.none) rfl rfl rfl rfl rfl
 |z0=>exact key .z0 (nomatch ·)
 |z1=>exact key .z1 (nomatch ·)
 |z2=>exact key .z2 (nomatch ·)
theorem X5(h:KI a){b:PV}:A1 pol (phi pol codes (n+3)) 30 false [.v (.str A9),.v a,.v (.str Dg),.v b] σ=.ok (.v (toD a),σ):=by
 exact A4 (row:=[some (.v (.str A9)),some (.v a),some (.v (.str Dg)),some (.v b)]) (x:=toD a) rfl rfl rfl rfl (Ab (A6 rfl (A6 rfl (A6 rfl (A6 rfl (A6 rfl (Ai rfl (Ck (Aa (A2 (A7 (A0 rfl) (A7 (A0 rfl) (A3 (A0 rfl)))) (Qz h)))))))))) rfl)
theorem Gm:A1 pol (phi pol codes (n+1)) 32 false [.v (.vec k i a),.v .none] σ=.ok (.v (.vec k i a),σ):=
 A4 (row:=[some (.v (.vec k i a)),some (.v .none)]) (x:=.vec k i a) rfl rfl rfl rfl rfl
theorem Re(hk:∀x∈xs,KI x)(hl:xs.length≤4096){b:PV}:A1 pol (phi pol codes (n+4)) 33 false [.v (kcol A9 xs),.v (.str Dg),.v b] σ=.ok (.v (kcol Dg (xs.map toD)),σ):=by
 exact A4 (row:=[some (.v (kcol A9 xs)),some (.v (.str Dg)),some (.v b),none]) (x:=kcol Dg (xs.map toD)) rfl rfl rfl rfl (Ab (A6 rfl (A5 (v:=.v (.lst xs)) rfl (Ai rfl (B8 (A5 (Aq (Al (A0 rfl) rfl rfl) rfl rfl hl (Ax toD fun c hc=>A2 (A7 (Al (A0 rfl) rfl rfl) (A7 (A0 rfl) (A7 (A0 rfl) (A3 (A0 rfl))))) (X5 (hk c hc)))) rfl)
  (Aa (A2 (A7 (Fg (A7 (A0 rfl) (A3 (G4 (A0 rfl) rfl (Nat.le_trans (Nat.le_of_eq (List.length_map _)) hl)))) Cw) (A3 (A2 (A3 (A0 rfl)) (R9 (.inr K2i))))) Gm)))))) rfl)
theorem Oz{b:PV}(hl:xs.length≤4096):A1 pol (phi pol codes (n+4)) 33 false [.v (kcol Bw xs),.v (.str Bw),.v b] σ=.ok (.v (kcol Bw xs),σ):=by
 exact A4 (row:=[some (.v (kcol Bw xs)),some (.v (.str Bw)),some (.v b),none]) (x:=kcol Bw xs) rfl rfl rfl rfl (Ab (A6 rfl (A5 (v:=.v (.lst xs)) rfl (A6 rfl (Aa (A2 (A7 (Fg (A7 (A0 rfl) (A3 (G4 (A0 rfl) rfl hl))) Cw) (A3 (A2 (A3 (A0 rfl)) (R9 (.inl rfl))))) Gm))))) rfl)
theorem Td{b:PV}:A1 pol (phi pol codes (n+5)) 34 false [.v .none,.v b] σ=.ok (.v b,σ):=
 A4 (row:=[some (.v .none),some (.v b),none]) (x:=b) rfl rfl rfl rfl rfl
noncomputable def flag(b:Bool):PV:=kcol Bw [.int (if b then 1 else 0)]
theorem X6{b:Bool}{c:PV}:A1 pol (phi pol codes (n+5)) 34 false [.v (flag b),.v c] σ=.ok (.v (.bool b),σ):=by
 refine A4 (row:=[some (.v (flag b)),some (.v c),none]) (x:=.bool b) rfl rfl rfl rfl (Ab (A6 rfl (A5 (Al (A2 (A7 (A0 rfl) (A7 rfl (A3 rfl))) (Oz (show 1≤4096 by decide))) rfl rfl) (A6 rfl (Aa (v:=.v (.bool b)) (σ':=[]) ?_)))) rfl)
 induction b using Bool.casesOn<;>rfl
theorem ex0:A1 pol (phi pol codes (n+4)) 3 false [.v (.tup [.int 0,.int 1])] σ=.ok (.v (.str [48]),σ):=
 A4 (row:=[some (.v (.tup [.int 0,.int 1])),none,none,none]) (x:=.str [48]) rfl rfl rfl rfl (by kernel_rfl)
theorem ex1:A1 pol (phi pol codes (n+4)) 3 false [.v (.tup [.int 1,.int 1])] σ=.ok (.v (.str [49]),σ):=
 A4 (row:=[some (.v (.tup [.int 1,.int 1])),none,none,none]) (x:=.str [49]) rfl rfl rfl rfl (by kernel_rfl)
theorem ex2:A1 pol (phi pol codes (n+4)) 3 false [.v (.tup [.int 2,.int 1])] σ=.ok (.v (.str [50]),σ):=
 A4 (row:=[some (.v (.tup [.int 2,.int 1])),none,none,none]) (x:=.str [50]) rfl rfl rfl rfl (by kernel_rfl)
theorem Li(hk:∀x∈xs,LI x)(hl:xs.length≤4096):A1 pol (phi pol codes (n+5)) 55 false [.v (kcol A8 xs)] σ=.ok (.v (.lst (xs.map fun x=>.str (kt x))),σ):=by
 have e:xs.map lab=xs:=(List.map_congr_left fun x hx=>by cases hk x hx<;>rfl).trans (List.map_id xs)
 have lt:=fun σ=>Dx (n:=n+2) (kd:=A8) (xs:=xs) (σ:=σ) (fun x hx=>.inr ⟨rfl,hk x hx⟩) (.inr rfl) hl
 rw[e]at lt
 exact A4 (row:=[some (.v (kcol A8 xs)),none]) (x:=.lst (xs.map fun x=>.str (kt x))) rfl rfl rfl rfl (Ab (Ai (Fe (A2 (A3 (A0 rfl)) (Cz K2c)) rfl) (Ck (Aa (Aq (A2 (A3 (A0 rfl)) (lt _)) rfl rfl hl (Ax (fun x=>.str (kt x)) fun c hc=>by cases hk c hc<;>rfl))))) rfl)
theorem Lh(hk:∀x∈xs,KI x)(hl:xs.length≤4096):A1 pol (phi pol codes (n+5)) 55 false [.v (kcol A9 xs)] σ=.ok (.v (.lst (xs.map fun x=>.str (kt x))),σ):=by
 have kk:∀{ρ:PEnv} {j:Int} {s:Cs},getV ρ 0 0=some (.v (.tup [.int j,.int 1]))→A1 pol (phi pol codes (n+4)) 3 false [.v (.tup [.int j,.int 1])] []=.ok (.v (.str s),[])→B3 j=s→s.length≤4095→ev pol (phi pol codes (n+4)) ρ false (.ite (.cmp .is (.var 0 0) (.cst .none)) (.cst (.str [78,65])) (.bin .add (.cst (.str [61])) (.callF 3 (.cons (.var 0 0) .nil)))) []=.ok (.v (.str (kt (.int j))),[]):=fun{ρ j s} hv h hs hl=>by
  subst hs
  exact Co (Ag (A0 hv) rfl rfl) (D2 rfl (A2 (A3 (A0 hv)) h) (if_pos (decide_eq_true (by rw[Nat.add_comm];exact Nat.succ_le_succ hl))))
 refine A4 (row:=[some (.v (kcol A9 xs)),none]) (x:=.lst (xs.map fun x=>.str (kt x))) rfl rfl rfl rfl (Ab (A6 (Fe (A2 (A3 (A0 rfl)) (Cz K2i)) rfl) (Ai rfl (Ck (A5 (Al (A2 (A7 (A0 rfl) (A7 rfl (A3 rfl))) (Re hk hl)) rfl rfl) (Aa (Aq (A0 rfl) rfl rfl (Nat.le_trans (Nat.le_of_eq (List.length_map _)) hl)
  (Ax (fun x=>(pTup x fun l=>lC l fun a J=>some (PV.str (kt a))).getD (.str (kt .none))) fun c hc=>?_))))))) ?_)
 ·obtain⟨x,hx,rfl⟩:=List.mem_map.mp hc
  cases hk x hx with
  |none=>rfl
  |z0=>exact kk rfl ex0 A61 (by decide)
  |z1=>exact kk rfl ex1 A60 (by decide)
  |z2=>exact kk rfl ex2 W5 (by decide)
 ·refine congrArg (fun l=>Res.ok (PV.lst l)) (List.map_map.trans (List.map_congr_left fun x hx=>?_))
  cases hk x hx<;>rfl
end
end Mine.Internal
namespace Mine.Internal
open PySem
section
variable {pol0:Pol} {Φ:Phi} {ρ:PEnv} {σ σ':Sto} {m:Bool} {n:Nat} {k i a:PV} {xs ys cols names rl:List PV} {kd:Cs}
noncomputable def cFb(pol:Pol)(Φ:Phi)(i:Nat)(b:CSs)(xs:List PV):Fl×PEnv×Sto→ResS:=flK fun ρ σ=>forB pol Φ i b xs ρ σ
@[simp] theorem A2e{i:Nat}{b:CSs}:cFb pol0 Φ i b xs (.next,ρ,σ)=forB pol0 Φ i b xs ρ σ:=rfl
@[simp] theorem Xu{i:Nat}{b:CSs}{x:PV}:forB pol0 Φ i b (x::xs) ρ σ=(exs pol0 Φ b (setV ρ i (.v x)) σ).bind (cFb pol0 Φ i b xs):=rfl
noncomputable def rngI(L:Nat):List PV:=(List.range L).map fun(i:Nat)=>PV.int i
theorem C5{L:Nat}{x:PV}(h:x∈rngI L):∃i:Nat,i<L∧x=.int i:=by
 obtain⟨i,hi,rfl⟩:=List.mem_map.mp h
 exact⟨i,List.mem_range.mp hi,rfl⟩
@[simp] theorem D0{L:Nat}:(rngI L).length=L:=by simp[rngI]
theorem Zf(L:Nat):rngN 0 L 1=L:=by
 unfold rngN
 induction L using Nat.casesOn with
 |zero=>rfl
 |succ n=>rw[if_pos (Int.natCast_pos.mpr (Nat.succ_pos n)),Int.ediv_one,Int.sub_zero,Int.sub_add_cancel];rfl
theorem Ki{L:Nat}{pre post:List PV}{x:PV}{k:Nat}(e:rngI L=pre++x::post)(h:L≤k):pre.length≤k:=Fi e (Nat.le_trans (Nat.le_of_eq D0) h)
theorem B5{L:Nat}(h:L≤4096):Az (.rng 0 L 1)=some (rngI L):=by
 have h1:(bnd (0:Int))=true:=by decide
 have h2:=Qi h
 have h3:(bnd (1:Int))=true:=by decide
 have h4:=Zf L
 simp[Ru,Ju,h1,h2,h3,rngL,h4,rngI]
noncomputable def rk(a b:PV):Cs:=B3 (kt a).length++[58]++kt a++(B3 (kt b).length++[58]++kt b)
noncomputable def rkAt(xs ys:List PV)(i:Nat):Cs:=rk (xs.getD i .none) (ys.getD i .none)
theorem A7e{a b:PV}(ha:(kt a).length=2)(hb:(kt b).length=2):rk a b=([50]++([58]++(kt a++[])))++[]++([50]++([58]++(kt b++[]))):=by
 unfold rk
 rw[ha,hb,show B3 ((2:Nat):Int)=[50]from W5]
 simp only[List.append_assoc,List.append_nil,List.nil_append]
theorem tx2:He (.int ((2:Nat):Int))=some [50]:=by rw[A2y,show B3 ((2:Nat):Int)=[50]from W5];rfl
noncomputable abbrev rkC(xs:List PV):PV:=.lst (xs.map fun x=>.str (kt x))
noncomputable abbrev rkW(xs ys:List PV)(L:Nat)(a b c:Option Val):List (Option Val):=[some (.v (.lst [kcol A9 xs,kcol A8 ys])),some (.v (.int L)),a,b,c]
theorem KI.len{x:PV}(h:KI x):(kt x).length=2:=by cases h<;>rfl
theorem LI.len{x:PV}(h:LI x):(kt x).length=2:=by cases h<;>rfl
theorem Kw(hx:∀x∈xs,KI x)(hy:∀x∈ys,LI x){L:Nat}(h1:xs.length=L)(h2:ys.length=L)(hL:L≤4096):
 A1 pol (phi pol codes (n+6)) 56 false [.v (.lst [kcol A9 xs,kcol A8 ys]),.v (.int L)] σ=.ok (.v (.lst ((List.range L).map fun i=>.str (rkAt xs ys i))),σ):=by
 have l1:=Nat.le_trans (Nat.le_of_eq h1) hL
 have l2:=Nat.le_trans (Nat.le_of_eq h2) hL
 have L1:=M9 (Φ:=phi pol codes (n+5)) (i:=4) (b:=(.cons (.expr (.meth .append (.var 0 3) (.cons (.meth .join (.cst (.str [])) (.cons (.comp (.fstr (.cons (.callB .len (.cons (.sub (.var 0 0) (.var 1 4)) .nil)) (.cons (.cst (.str [58])) (.cons (.sub (.var 0 0) (.var 1 4)) .nil)))) (.var 0 2) .nil 0) .nil)) .nil))) .nil)) (xs:=rngI L) (fun z=>[rkW xs ys L (some (.v (.lst [rkC xs,rkC ys]))) (some (.h 0)) z])
  (fun x=>(pInt x fun i=>some (PV.str (rkAt xs ys i.toNat))).getD .none) (fun pre z x post e=>by
   obtain⟨i,hi,rfl⟩:=C5 (L:=L) (x:=x) (by rw[e];exact List.mem_append_right _ List.mem_cons_self)
   have ix:=Nat.lt_of_lt_of_eq hi h1.symm
   have iy:=Nat.lt_of_lt_of_eq hi h2.symm
   have sx:=F8 (f:=fun x=>PV.str (kt x)) l1 ix
   have sy:=F8 (f:=fun x=>PV.str (kt x)) l2 iy
   have kx:(kt xs[i]).length=2:=KI.len (hx _ (List.getElem_mem ix))
   have ky:(kt ys[i]).length=2:=LI.len (hy _ (List.getElem_mem iy))
   have hr:rkAt xs ys i=rk xs[i] ys[i]:=by
    unfold rkAt
    rw[List.getD_eq_getElem?_getD,List.getD_eq_getElem?_getD,List.getElem?_eq_getElem ix,List.getElem?_eq_getElem iy];rfl
   have tx:∀{σ:Sto} {s:Cs} {x:PV},subP x (.int i)=some (.str s)→s.length=2→ev pol (phi pol codes (n+5)) [[some (.v x)],rkW xs ys L (some (.v (.lst [rkC xs,rkC ys]))) (some (.h 0)) (some (.v (.int i)))] false (.fstr (.cons (.callB .len (.cons (.sub (.var 0 0) (.var 1 4)) .nil)) (.cons (.cst (.str [58])) (.cons (.sub (.var 0 0) (.var 1 4)) .nil)))) σ=.ok (.v (.str ([50]++([58]++(s++[])))),σ):=fun h hs=>by
    have hs4:=Nat.le_trans (Nat.le_of_eq hs) (show 2≤4096 by decide)
    exact A7k (A7m (Au (A3 (Aj (A0 rfl) (A0 rfl) rfl h)) (if_pos (decide_eq_true hs4))) (by rw[hs];exact tx2) (A7m rfl rfl (A7m (Aj (A0 rfl) (A0 rfl) rfl h) (if_pos (decide_eq_true hs4)) rfl))) (by rw[List.append_nil];exact Nat.le_trans (Nat.le_of_eq (congrArg (·+2) hs)) (by decide))
   show _=Res.ok (_,_,[PO.list (_++[PV.str (rkAt xs ys i)])])
   rw[hr,A7e kx ky]
   exact Af (B2 (As rfl rfl) rfl (G3 (v:=.v (.str [])) rfl rfl rfl (A3 (Aq (A0 rfl) rfl rfl (show 2≤4096 by decide) (B4 (tx sx kx) (B4 (tx sy ky) rfl)))) rfl (A0r (by
    rw[List.append_nil,List.append_nil,List.append_nil]
    simp only[List.length_append,kx,ky,List.length_cons,List.length_nil];decide))) (Nat.le_trans (Nat.le_of_eq (List.length_map _)) (Ki e hL))) rfl) (z:=none)
 refine A4 (row:=rkW xs ys L none none none) (x:=.lst ((List.range L).map fun i=>.str (rkAt xs ys i))) rfl rfl rfl rfl ?_
 refine Ab (A5 (Aq (A0 rfl) rfl rfl (show 2≤4096 by decide) (B4 (A2 (A3 (A0 rfl)) (Lh hx l1)) (B4 (A2 (A3 (A0 rfl)) (Li hy l2)) rfl))) (A5 (v:=.h 0) rfl (Am (Au (A3 (A0 rfl)) rfl) rfl (B5 hL) L1 (Aa (As rfl rfl))))) ?_
 exact congrArg (fun l=>Res.ok (PV.lst l)) List.map_map
end
end Mine.Internal
namespace Mine.Internal
open PySem
section
variable {pol0:Pol} {Φ:Phi} {ρ:PEnv} {σ σ':Sto} {m:Bool} {n:Nat} {k i a:PV} {xs ys cols names rl:List PV} {kd:Cs}
theorem J9{i:Nat}{b:CSs}{xs:List PV}(S:List PV→Sto)(R:Option Val→PEnv)(g:PV→List PV)(acc0:List PV)
 (h:∀pre z x post,xs=pre++x::post→exs pol Φ b (setV (R z) i (.v x)) (S (acc0++pre.flatMap g))=.ok (.next,R (some (.v x)),S (acc0++pre.flatMap g++g x))) {z:Option Val}:
 forB pol Φ i b xs (R z) (S acc0)=.ok (.next,R (Ch z xs),S (acc0++xs.flatMap g)):=by
 have:=J8 (Φ:=Φ) (i:=i) (b:=b) (xs:=xs) (fun z (_:List PV)=>R z) S (fun acc x=>acc++g x) (fun pre acc=>acc=acc0++pre.flatMap g)
  (fun pre z acc x post e hi=>⟨by subst hi;exact h pre z x post e,by rw[hi];simp⟩) (z:=z) (s:=acc0) (by simp)
 rw[this,Ub]
theorem Ph{g:PV→List PV}{pre post:List PV}{x:PV}(e:xs=pre++x::post):(pre.flatMap g).length+(g x).length≤(xs.flatMap g).length:=by
 rw[e,List.flatMap_append,List.flatMap_cons,List.length_append,List.length_append,←Nat.add_assoc];exact Nat.le_add_right _ _
theorem fm1(f:PV→PV)(L:List PV):L.flatMap (fun y=>[f y])=L.map f:=by
 induction L with
 |nil=>
  exact rfl
 |cons x L ih=>
  rw[List.flatMap_cons,ih];rfl
theorem Dl{β:Type}{i:Nat}{b:CSs}{xs:List PV}(R:Option Val→β→PEnv)(S:β→Sto)(Inv:List PV→β→Prop)
 (h:∀pre z s x post,xs=pre++x::post→Inv pre s→∃s',exs pol Φ b (setV (R z s) i (.v x)) (S s)=.ok (.next,R (some (.v x)) s',S s')∧Inv (pre++[x]) s')
 {z:Option Val} {s:β} (hs:Inv [] s):∃s',forB pol Φ i b xs (R z s) (S s)=.ok (.next,R (Ch z xs) s',S s')∧Inv xs s':=by
 have go:∀(post pre:List PV) (z:Option Val) (s:β),xs=pre++post→Inv pre s→∃s',forB pol Φ i b post (R z s) (S s)=.ok (.next,R (Ch z post) s',S s')∧Inv xs s':=by
  intro post
  induction post with
  |nil=>intro pre z s e hi;exact⟨s,rfl,by rw[e];simpa using hi⟩
  |cons x post ih=>
   intro pre z s e hi
   refine(let GG:=_;(?_:GG))
   obtain⟨s1,h1,h2⟩:=h pre z s x post e hi
   obtain⟨s2,h3,h4⟩:=ih (pre++[x]) (some (.v x)) s1 (by rw[e];simp) h2
   exact⟨s2,by rw[Xu,h1,Res.ok_bind,A2e];exact h3,h4⟩
 exact go xs [] z s rfl hs
theorem Jy{f:Nat}{c:FC}{vs:List Val}{row:List (Option Val)}{xs ys:List PV}{k:Nat}{ρ':PEnv}{σ':Sto}(hv:frzs σ vs=some (xs,σ))(hc:codes f=some c)(hp:pol.shared f=false)(hb:Ey c (xs.map .v)=some row)
 (he:exs pol (phi pol codes n) c.body [row] []=.ok (.ret (.h k),ρ',σ')) (hl:σ'[k]?=some (.list ys)):A1 pol (phi pol codes (n+1)) f m vs σ=.ok (mk m ys σ):=by
 rw[Gf hp hv,H0 hc hb,he]
 show Dv m σ (No k (σ'[k]?),σ')=_
 rw[hl]
 exact congrArg (Mg m σ σ' k) hl
noncomputable def B1(ks:List Cs)(x:PV):Cs:=(pInt x fun j=>some (ks.getD j.toNat [])).getD []
noncomputable def vw:PO→Cs→List PV
 |.dictl es,k=>(look k es).getD []
 |_,_=>[]
theorem A2t{es:List (Cs×List PV)}{k:Cs}:vw (.dictl es) k=(look k es).getD []:=rfl
theorem Nt{β:Type}(k k':Cs)(x:β)(es:List (Cs×β)):look k (put k' x es)=if k'=k then some x else look k es:=by
 induction es with
 |nil=>
  simp[Fh,Jq,Cp,Dz]
 |cons zz r ih=>
  obtain⟨a,b⟩:=zz
  rw[Fh]
  by_cases h:a=k'
  ·subst h
   rw[if_pos rfl]
   simp only[Cp]
   by_cases h2:a=k<;>simp[h2]
  ·rw[if_neg h]
   simp only[Cp]
   rw[ih]
   by_cases h2:a=k
   ·subst h2
    rw[if_pos rfl,if_neg (fun q=>h q.symm),if_pos rfl]
   ·rw[if_neg h2,if_neg h2]
theorem Ln{β:Type}(k:Cs)(x:β)(es:List (Cs×β)):(put k x es).length≤es.length+1:=by
 induction es with
 |nil=>
  simp[Fh,Jq]
 |cons zz r ih=>
  obtain⟨a,b⟩:=zz
  rw[Fh]
  split
  ·simp
  ·exact Nat.succ_le_succ (ih)
noncomputable def Jk(yk:List Cs)(po:PO)(x:PV):PO:=match po with
 |.dictl es=>.dictl (put (B1 yk x) ((look (B1 yk x) es).getD []++[x]) es)
 |_=>.dictl [(B1 yk x,[x])]
theorem Vc{yk:List Cs}{es:List (Cs×List PV)}{x:PV}:Jk yk (.dictl es) x=.dictl (put (B1 yk x) ((look (B1 yk x) es).getD []++[x]) es):=rfl
theorem Vd{yk:List Cs}{es:List (Cs×PV)}{x:PV}:Jk yk (.dict es) x=.dictl [(B1 yk x,[x])]:=rfl
noncomputable def TInv(yk:List Cs)(pre:List PV)(po:PO):Prop:=((po=.dict []∧pre=[])∨∃es,po=.dictl es∧es.length≤pre.length)∧∀k,vw po k=pre.filter fun x=>decide (B1 yk x=k)
theorem Nb{yk:List Cs}{pre:List PV}{po:PO}{x:PV}(h:TInv yk pre po):TInv yk (pre++[x]) (Jk yk po x):=by
 obtain⟨h1,h2⟩:=h
 rcases h1 with⟨rfl,rfl⟩|⟨es,rfl,hl⟩
 ·refine⟨.inr ⟨_,rfl,by simp⟩,fun k=>?_⟩
  simp only[Vc,Vd,A2t,Cp,Dz]
  by_cases h:B1 yk x=k<;>simp[h]
 ·refine⟨.inr ⟨_,rfl,Vj (Nat.le_trans (Ln ..) (Nat.succ_le_succ hl))⟩,fun k=>?_⟩
  have:=h2 k
  simp only[Vc,Vd,A2t,Nt]at this⊢
  by_cases h:B1 yk x=k
  ·subst h;simp[←this]
  ·simp[h,←this]
theorem A9h{yk:List Cs}{pre:List PV}{po:PO}{x:PV}(h:TInv yk pre po)(hl:pre.length≤4096):sdApp (.h 0) (.v (.str (B1 yk x))) x [po]=some [Jk yk po x]:=by
 obtain⟨h1,h2⟩:=h
 rcases h1 with⟨rfl,rfl⟩|⟨es,rfl,hle⟩
 ·rfl
 ·have e:=h2 (B1 yk x)
  have:((look (B1 yk x) es).getD []).length≤4096:=by
   have e2:vw (.dictl es) (B1 yk x)=(look (B1 yk x) es).getD []:=rfl
   rw[←e2,e]
   exact Nat.le_trans (List.length_filter_le _ _) hl
  have a1:=Nat.le_trans hle hl
  exact if_pos (by rw[show small es.length=true from decide_eq_true a1,show small ((look (B1 yk x) es).getD []).length=true from decide_eq_true this];rfl)
noncomputable def Ie:PO→List (Cs×PV)
 |.dictl es=>es.map fun e=>(e.1,.lst e.2)
 |_=>[]
theorem Rp{β γ:Type}(f:β→γ)(k:Cs)(es:List (Cs×β)):look k (es.map fun e=>(e.1,f e.2))=(look k es).map f:=by
 induction es with
 |nil=>
  exact rfl
 |cons zz r ih=>
  obtain⟨a,b⟩:=zz
  rw[List.map_cons];simp only[Cp]
  rw[ih]
  split<;>rfl
theorem A8d{yk:List Cs}{pre:List PV}{po:PO}{k:Cs}{rest:Sto}(h:TInv yk pre po):Ih .get (.h 0) [.v (.str k),.v (.lst [])] (po::rest)=some (.v (.lst (vw po k)),.froz (.dct (Ie po))::rest):=by
 obtain⟨h1,h2⟩:=h
 rcases h1 with⟨rfl,rfl⟩|⟨es,rfl,hle⟩
 ·rfl
 ·refine(congrArg (fun(o:Option PV)=>some (Val.v (o.getD (.lst [])),PO.froz (.dct (es.map fun e=>(e.1,PV.lst e.2)))::rest)) (Rp PV.lst k es)).trans ?_
  rw[A2t]
  cases look k es<;>rfl
theorem A4n{po:PO}{k:Cs}{rest:Sto}{yk:List Cs}{pre:List PV}(h:TInv yk pre po):Ih .get (.h 0) [.v (.str k),.v (.lst [])] (.froz (.dct (Ie po))::rest)=some (.v (.lst (vw po k)),.froz (.dct (Ie po))::rest):=by
 obtain⟨h1,h2⟩:=h
 rcases h1 with⟨rfl,rfl⟩|⟨es,rfl,hle⟩
 ·rfl
 ·refine(congrArg (fun(o:Option PV)=>some (Val.v (o.getD (.lst [])),PO.froz (.dct (es.map fun e=>(e.1,PV.lst e.2)))::rest)) (Rp PV.lst k es)).trans ?_
  rw[A2t]
  cases look k es<;>rfl
theorem Kq{ks:List Cs}{j:Nat}(hL:ks.length≤4096)(h1:j<ks.length):subP (.lst (ks.map .str)) (.int j)=some (.str (B1 ks (.int j))):=by
 exact(F8 hL h1).trans (by simp[B1,h1])
theorem Ws{yk:List Cs}(xs:List PV):∀(pre:List PV) (po:PO),TInv yk pre po→TInv yk (pre++xs) (xs.foldl (Jk yk) po):=by
 induction xs with
 |nil=>
  intro pre po h
  simpa using h
 |cons x xs ih=>
  intro pre po h
  have:=ih (pre++[x]) (Jk yk po x) (Nb h)
  simpa using this
noncomputable def Bz(xk yk:List Cs):List PV:=(rngI xk.length).flatMap fun x=>((rngI yk.length).filter fun y=>decide (B1 yk y=B1 xk x)).map fun y=>.tup [x,y]
theorem TInv.ty{yk:List Cs}{pre:List PV}{po:PO}(h:TInv yk pre po){rest:Sto}:tyOf (po::rest) (.h 0)=some .dict:=by
 obtain⟨⟨rfl,_⟩|⟨es,rfl,_⟩,_⟩:=h<;>rfl
theorem TInv.nm{yk:List Cs}{pre:List PV}{po:PO}(h:TInv yk pre po){rest:Sto}:norm (po::rest) (.h 0)=.h 0:=by
 obtain⟨⟨rfl,_⟩|⟨es,rfl,_⟩,_⟩:=h<;>rfl
theorem A4o{yk:List Cs}{pre:List PV}{po p:PO}(h:TInv yk pre po)(hp:p=po∨p=.froz (.dct (Ie po))){rest:Sto}:∃v,norm (p::rest) (.h 0)=v∧tyOf (p::rest) v=some .dict∧∀k,Ih .get v [.v (.str k),.v (.lst [])] (p::rest)=some (.v (.lst (vw po k)),.froz (.dct (Ie po))::rest):=by
 rcases hp with rfl|rfl
 ·exact⟨.h 0,h.nm,h.ty,fun k=>A8d h⟩
 ·exact⟨.v (.dct (Ie po)),rfl,rfl,fun k=>A4n h⟩
theorem J6{ks:List Cs}(h:ks.length≤4096):Az (.rng 0 ((ks.map PV.str).length) 1)=some (rngI ks.length):=by
 rw[List.length_map];exact B5 h
theorem Pf{ks:List Cs}(h:ks.length≤4096):(ks.map PV.str).length≤4096:=Nat.le_trans (Nat.le_of_eq (List.length_map _)) h
noncomputable abbrev mtW(xk yk:List Cs)(a b c d:Option Val):List (Option Val):=[some (.v (.lst (xk.map .str))),some (.v (.lst (yk.map .str))),a,b,c,d]
noncomputable abbrev mtF:CSs:=(.cons (.expr (.sdApp (.var 0 2) (.sub (.var 0 1) (.var 0 3)) 0 3)) .nil)
noncomputable abbrev mtG:CSs:=(.cons (.expr (.meth .append (.var 0 4) (.cons (.tupE (.cons (.var 0 3) (.cons (.var 0 5) .nil))) .nil))) .nil)
theorem K6{xk yk:List Cs}(h1:xk.length≤4096)(h2:yk.length≤4096)(h3:(Bz xk yk).length≤4096):
 A1 pol (phi pol codes (n+1)) 58 m [.v (.lst (xk.map .str)),.v (.lst (yk.map .str))] σ=.ok (mk m (Bz xk yk) σ):=by
 have L1:=J8 (Φ:=phi pol codes n) (i:=3) (b:=mtF) (xs:=rngI yk.length)
  (fun z (_:PO)=>[mtW xk yk (some (.h 0)) z none none]) (fun po=>[po]) (Jk yk) (TInv yk)
  (fun pre z po x post e hi=>by
   obtain⟨j,hj,rfl⟩:=C5 (L:=yk.length) (x:=x) (by rw[e];exact List.mem_append_right _ List.mem_cons_self)
   exact⟨Af (A9j (As rfl hi.nm) rfl hi.ty (Aj (A0 rfl) (A0 rfl) rfl (Kq h2 hj)) (A9h hi (Ki e h2))) rfl,Nb hi⟩)
  (z:=none) (s:=.dict []) ⟨.inl ⟨rfl,rfl⟩,fun k=>rfl⟩
 have TI:=Ws (yk:=yk) (rngI yk.length) [] (.dict []) ⟨.inl ⟨rfl,rfl⟩,fun k=>rfl⟩
 generalize (rngI yk.length).foldl (Jk yk) (.dict [])=po at L1 TI
 let g:PV→List PV:=fun x=>(vw po (B1 xk x)).map fun y=>.tup [x,y]
 have hg:(rngI xk.length).flatMap g=Bz xk yk:=congrArg (fun f=>List.flatMap f (rngI xk.length)) (funext fun x=>congrArg (List.map fun y=>PV.tup [x,y]) (TI.2 (B1 xk x)))
 obtain⟨⟨p2,acc2,w2⟩,L2,I2⟩:=Dl (Φ:=phi pol codes n) (i:=3) (b:=(.cons (.forS 5 (.meth .get (.var 0 2) (.cons (.sub (.var 0 0) (.var 0 3)) (.cons (.lstE .nil) .nil))) mtG) .nil)) (xs:=rngI xk.length)
  (fun z (s:PO×List PV×Option Val)=>[mtW xk yk (some (.h 0)) z (some (.h 1)) s.2.2]) (fun s=>[s.1,.list s.2.1])
  (fun pre s=>s.2.1=pre.flatMap g∧(s.1=po∨s.1=.froz (.dct (Ie po))))
  (fun pre z s x post e hi=>by
   obtain⟨p,acc,w⟩:=s
   obtain⟨j,hj,rfl⟩:=C5 (L:=xk.length) (x:=x) (by rw[e];exact List.mem_append_right _ List.mem_cons_self)
   have hl:acc.length+(g (.int j)).length≤4096:=by
    have:=Ph (g:=g) e
    rw[hg]at this
    rw[show acc=_ from hi.1];exact Nat.le_trans this h3
   obtain⟨v,nm,ty,gt⟩:=A4o TI hi.2 (rest:=[.list acc])
   refine⟨(.froz (.dct (Ie po)),acc++g (.int j),Ch w (vw po (B1 xk (.int j)))),?_,by rw[show acc=_ from hi.1,List.flatMap_append,List.flatMap_cons,List.flatMap_nil,List.append_nil],.inr rfl⟩
   have inner:=J9 (Φ:=phi pol codes n) (i:=5) (b:=mtG) (xs:=vw po (B1 xk (.int j)))
    (fun acc=>[.froz (.dct (Ie po)),.list acc]) (fun w=>[mtW xk yk (some (.h 0)) (some (.v (.int j))) (some (.h 1)) w]) (fun y=>[.tup [.int j,y]]) acc
    (fun pre2 z2 y post2 e2=>by
     have q:=Ph (g:=fun y=>[PV.tup [.int j,y]]) e2
     rw[fm1 _ (vw po (B1 xk (.int j)))]at q
     have q4:(acc++pre2.flatMap fun y=>[PV.tup [.int j,y]]).length≤4096:=by rw[List.length_append];exact Nat.le_trans (Nat.add_le_add_left (Nat.le_of_succ_le q) _) hl
     exact Af (B2 (As rfl rfl) rfl (Fd (A7 (A0 rfl) (A3 (A0 rfl))) rfl) q4) rfl) (z:=w)
   rw[fm1]at inner
   exact Am (G3 (As rfl nm) ty rfl (A7 (Aj (A0 rfl) (A0 rfl) rfl (Kq h1 hj)) (A3 rfl)) ty (gt _)) rfl rfl inner rfl)
  (z:=Ch none (rngI yk.length)) (s:=(po,[],none)) ⟨rfl,.inl rfl⟩
 rw[show acc2=_ from I2.1,hg]at L2
 exact Jy (ys:=Bz xk yk) (k:=1) (row:=mtW xk yk none none none none) rfl rfl rfl rfl
  (A5 (v:=.h 0) rfl (Am (Au (A3 (Bf (A0 rfl) rfl (Pf h2))) rfl) rfl (J6 h2) L1 (A5 (v:=.h 1) rfl (Am (Au (A3 (Bf (A0 rfl) rfl (Pf h1))) rfl) rfl (J6 h1) L2 (Aa (As rfl rfl)))))) rfl
end
end Mine.Internal
namespace Mine.Internal
open PySem
section
variable {pol0:Pol} {Φ:Phi} {ρ:PEnv} {σ σ':Sto} {m:Bool} {n:Nat} {k i a:PV} {xs ys cols names rl:List PV} {kd:Cs}
noncomputable def lone(ks os:List Cs):List PV:=(rngI ks.length).filter fun x=>decide (B1 ks x∉os)
theorem A7a{s:Cs}{x:PV}{es:List (Cs×PV)}(h:es.length≤4096):E3 (.h 0) (.v (.str s)) (.v x) [.dict es]=some [.dict (put s x es)]:=if_pos (show small es.length=true from decide_eq_true h)
noncomputable abbrev loW(ks os:List Cs)(a b:Option Val):List (Option Val):=[some (.v (.lst (ks.map .str))),some (.v (.lst (os.map .str))),a,b]
theorem Gn{ks os:List Cs}(h1:ks.length≤4096)(h2:os.length≤4096):
 A1 pol (phi pol codes (n+1)) 59 false [.v (.lst (ks.map .str)),.v (.lst (os.map .str))] σ=.ok (.v (.lst (lone ks os)),σ):=by
 refine A4 (row:=loW ks os none none) (x:=.lst (lone ks os)) rfl rfl rfl rfl ?_
 obtain⟨es,L1,I1⟩:=Dl (Φ:=phi pol codes n) (i:=3) (b:=(.cons (.setI (.var 0 2) (.var 0 3) (.cst (.bool true))) .nil)) (xs:=os.map .str)
  (fun z (_:List (Cs×PV))=>[loW ks os (some (.h 0)) z]) (fun es=>[.dict es])
  (fun pre es=>es.length≤pre.length∧∀k,(look k es).isSome=true↔PV.str k∈pre)
  (fun pre z es x post e hi=>by
   obtain⟨s,hs,rfl⟩:=List.mem_map.mp (show x∈os.map PV.str by rw[e];exact List.mem_append_right _ List.mem_cons_self)
   have hl:=Nat.le_trans hi.1 (Fi e (Pf h2))
   refine⟨put s (.bool true) es,Wv rfl (As rfl rfl) (A0 rfl) (A7a hl) rfl,Vj (Nat.le_trans (Ln ..) (Nat.succ_le_succ hi.1)),fun k=>?_⟩
   rw[Nt]
   by_cases h:s=k
   ·subst h;rw[if_pos rfl];exact⟨fun J=>List.mem_append_right _ List.mem_cons_self,fun J=>rfl⟩
   ·rw[if_neg h,hi.2 k,List.mem_append]
    refine⟨.inl,fun q=>q.elim id fun q=>absurd (List.mem_singleton.mp q) fun q=>h ?_⟩
    cases q;rfl)
  (z:=none) (s:=[]) ⟨Nat.le_refl _,fun k=>⟨fun q=>(nomatch q),fun q=>(nomatch q)⟩⟩
 refine Ab (A5 (v:=.h 0) rfl (Am (A0 rfl) rfl rfl L1 (Aa (Aq (Au (A3 (Bf (A0 rfl) rfl (Pf h1))) rfl) rfl (J6 h1) (Nat.le_trans (Nat.le_of_eq D0) h1) (Ig (fun x=>decide (B1 ks x∉os)) (fun x=>x) (fun x hx=>?_) (fun x hx J=>rfl)))))) ?_
 ·obtain⟨j,hj,rfl⟩:=C5 hx
  have e:(look (B1 ks (.int j)) es).isSome=decide (B1 ks (.int j)∈os):=by
   rw[Bool.eq_iff_iff,I1.2 (B1 ks (.int j)),decide_eq_true_iff]
   exact⟨fun h=>by obtain⟨a,ha,q⟩:=List.mem_map.mp h;cases q;exact ha,fun h=>List.mem_map.mpr ⟨_,h,rfl⟩⟩
  exact A64 (P7 (Aj (A0 rfl) (A0 rfl) rfl (Kq h1 hj)) (As rfl rfl) rfl rfl ((congrArg (fun b=>some (!b)) e).trans (congrArg some decide_not.symm)))
 ·rw[List.nil_append,List.map_id'];rfl
noncomputable def Fo(ks os:List Cs)(b:Bool):List PV:=if b then(lone ks os).map fun x=>.tup [x,.none]else[]
noncomputable def M1(ks os:List Cs)(b:Bool):List PV:=if b then(lone ks os).map fun x=>.tup [.none,x]else[]
noncomputable def Bv(xk yk:List Cs)(ax ay:Bool):List PV:=Bz xk yk++Fo xk yk ax++M1 yk xk ay
noncomputable abbrev mgX:CSs:=(.cons (.expr (.meth .append (.var 0 4) (.cons (.tupE (.cons (.var 0 5) (.cons (.cst .none) .nil))) .nil))) .nil)
noncomputable abbrev mgY:CSs:=(.cons (.expr (.meth .append (.var 0 4) (.cons (.tupE (.cons (.cst .none) (.cons (.var 0 5) .nil))) .nil))) .nil)
noncomputable abbrev mgR(xk yk:List Cs)(ax ay:Bool)(w:Option Val):PEnv:=[[some (.v (.lst (xk.map .str))),some (.v (.lst (yk.map .str))),some (.v (.bool ax)),some (.v (.bool ay)),some (.h 0),w]]
theorem A08{xs A:List PV}{b:CSs}{g:PV→PV}{R:Option Val→PEnv}(hl:(A++xs.map g).length≤4096)(hb:∀(z:Option Val) (y:PV) (B:List PV),B.length≤4096→exs pol Φ b (setV (R z) 5 (.v y)) [.list B]=.ok (.next,R (some (.v y)),[.list (B++[g y])])){w:Option Val}:forB pol Φ 5 b xs (R w) [.list A]=.ok (.next,R (Ch w xs),[.list (A++xs.map g)]):=by
 have:=J9 (Φ:=Φ) (i:=5) (b:=b) (xs:=xs) (fun acc=>[.list acc]) R (fun x=>[g x]) A (fun pre z x post e=>by
  have q:=Ph (g:=fun y=>[g y]) e
  rw[fm1 _ xs]at q
  refine hb z x _ (Nat.le_trans ?_ hl)
  rw[List.length_append,List.length_append]
  exact Nat.add_le_add_left (Nat.le_of_succ_le q) _) (z:=w)
 rw[this,fm1]
theorem Kz{xk yk:List Cs}{ax ay:Bool}(h1:xk.length≤4096)(h2:yk.length≤4096)(h3:(Bv xk yk ax ay).length≤4096):
 A1 pol (phi pol codes (n+2)) 60 false [.v (.lst (xk.map .str)),.v (.lst (yk.map .str)),.v (.bool ax),.v (.bool ay)] σ=.ok (.v (.lst (Bv xk yk ax ay)),σ):=by
 have l1:(Bz xk yk++Fo xk yk ax).length≤4096:=V4 (b:=M1 yk xk ay) h3
 have A:∃w,∀{r:CSs} {R:ResS},exs pol (phi pol codes (n+1)) r (mgR xk yk ax ay w) [.list (Bz xk yk++Fo xk yk ax)]=R→exs pol (phi pol codes (n+1)) (.cons (.ifS (.var 0 2) (.cons (.forS 5 (.callF 59 (.cons (.var 0 0) (.cons (.var 0 1) .nil))) mgX) .nil) .nil) r) (mgR xk yk ax ay none) [.list (Bz xk yk)]=R:=by
  induction ax using Bool.casesOn with
  |true=>exact⟨_,fun k=>Ai (A0 rfl) (B8 (Am (A2 (A7 (A0 rfl) (A3 (A0 rfl))) (Gn h1 h2)) rfl rfl (A08 (R:=mgR xk yk true ay) l1 fun z y B hB=>Af (B2 (As rfl rfl) rfl (Fd (A7 (A0 rfl) (A3 rfl)) rfl) hB) rfl) rfl) k)⟩
  |false=>exact⟨none,fun k=>A6 (A0 rfl) (by rw[show Bz xk yk++Fo xk yk false=Bz xk yk from List.append_nil _]at k;exact k)⟩
 obtain⟨w,A⟩:=A
 have B:∃w',∀{r:CSs} {R:ResS},exs pol (phi pol codes (n+1)) r (mgR xk yk ax ay w') [.list (Bv xk yk ax ay)]=R→exs pol (phi pol codes (n+1)) (.cons (.ifS (.var 0 3) (.cons (.forS 5 (.callF 59 (.cons (.var 0 1) (.cons (.var 0 0) .nil))) mgY) .nil) .nil) r) (mgR xk yk ax ay w) [.list (Bz xk yk++Fo xk yk ax)]=R:=by
  induction ay using Bool.casesOn with
  |true=>exact⟨_,fun k=>Ai (A0 rfl) (B8 (Am (A2 (A7 (A0 rfl) (A3 (A0 rfl))) (Gn h2 h1)) rfl rfl (A08 (R:=mgR xk yk ax true) h3 fun z y B hB=>Af (B2 (As rfl rfl) rfl (Fd (A7 rfl (A3 (A0 rfl))) rfl) hB) rfl) rfl) k)⟩
  |false=>exact⟨w,fun k=>A6 (A0 rfl) (by rw[show Bv xk yk ax false=Bz xk yk++Fo xk yk ax from List.append_nil _]at k;exact k)⟩
 obtain⟨w',B⟩:=B
 exact A4 (row:=[some (.v (.lst (xk.map .str))),some (.v (.lst (yk.map .str))),some (.v (.bool ax)),some (.v (.bool ay)),none,none]) (x:=.lst (Bv xk yk ax ay)) rfl rfl rfl rfl
  (Ab (A5 (A2 (A7 (A0 rfl) (A3 (A0 rfl))) (K6 h1 h2 (V4 l1))) (A (B (Aa (As rfl rfl))))) rfl)
end
end Mine.Internal
namespace Mine.Internal
open PySem
section
variable {pol0:Pol} {Φ:Phi} {ρ:PEnv} {σ σ':Sto} {m:Bool} {n:Nat} {k i a:PV} {xs ys cols names rl:List PV} {kd:Cs}
theorem Ec{f:Nat}{vs:List Val}{ps:List PV}(hp:pol.shared f=false)(h:frzs σ vs=some (ps,σ')):A1 pol Φ f m vs σ=A1 pol Φ f m (ps.map .v) σ':=by
 rw[Gf hp h,Gf hp (A15 ps)]
theorem Mv(hk:K2 kd):A1 pol (phi pol codes (n+2)) 28 false [.v (.lst [.str kd,.str kd])] σ=.ok (.v (.str kd),σ):=by
 rcases hk with rfl|rfl
 ·exact A4 (row:=[some (.v (.lst [.str A9,.str A9])),none,none,none]) (x:=.str A9) rfl rfl rfl rfl (by kernel_rfl)
 ·exact A4 (row:=[some (.v (.lst [.str A8,.str A8])),none,none,none]) (x:=.str A8) rfl rfl rfl rfl (by kernel_rfl)
theorem Zb(hk:K2 kd)(hl:xs.length+ys.length≤4096):A1 pol (phi pol codes (n+4)) 54 false [.v (.lst [kcol kd xs,kcol kd ys])] σ=.ok (.v (kcol kd (xs++ys)),σ):=
 A4 (row:=[some (.v (.lst [kcol kd xs,kcol kd ys])),none,none,none,none]) (x:=kcol kd (xs++ys)) rfl rfl rfl rfl
  (Ab (A6 (A2 (A3 (Aj (A0 rfl) rfl rfl rfl)) (Cz hk)) (A5 (v:=.h 0) rfl (Am (A0 rfl) rfl rfl
   (Bk (Af (B2 (As rfl rfl) rfl (Co (A2 (A3 (A0 rfl)) (Cz hk)) (A0 rfl)) (show 0≤4096 by decide)) rfl) (Bk (Af (B2 (As rfl rfl) rfl (Co (A2 (A3 (A0 rfl)) (Cz hk)) (A0 rfl)) (show 1≤4096 by decide)) rfl) rfl))
   (A5 (A2 (A3 (Aq (m:=false) (As rfl rfl) rfl rfl (show 2≤4096 by decide) (B4 rfl (B4 rfl rfl)))) (Mv hk)) (A5 (v:=.h 1) rfl (Am (As rfl rfl) rfl rfl
   (Bk (Ai (D6 (z:=true) rfl (A0 rfl) Z5) (B8 (Af (Zl (As rfl rfl) rfl (Al (A0 rfl) rfl rfl) (Nat.le_trans (Nat.le_of_eq (Nat.zero_add _)) (Hb hl))) rfl) rfl)) (Bk (Ai (D6 (z:=true) rfl (A0 rfl) Z5) (B8 (Af (Zl (As rfl rfl) rfl (Al (A0 rfl) rfl rfl) hl) rfl) rfl)) rfl))
   (Aa (Zm (A7 (A0 rfl) (A7 (As rfl rfl) (A3 (A2 (A3 (Aj (A0 rfl) rfl rfl rfl)) Hk)))) rfl)))))))) rfl)
inductive PairOk(n1 n2:Nat):PV→Prop
 |both (i j:Nat):i<n1→j<n2→PairOk n1 n2 (.tup [.int i,.int j])
 |left (i:Nat):i<n1→PairOk n1 n2 (.tup [.int i,.none])
 |right (j:Nat):j<n2→PairOk n1 n2 (.tup [.none,.int j])
noncomputable def Dq(n1:Nat)(x:PV):PV:=(pTup x fun l=>lC l fun a l=>lC l fun b J=>(pInt a fun i=>some (PV.int i)).or (pInt b fun j=>some (.int (n1+j)))).getD .none
noncomputable def kTT(pol:Pol)(Φ:Phi)(b:CSs)(σ:Sto):Option PEnv→ResS
 |some ρ=>exs pol Φ b ρ σ
 |none=>.stk
theorem Ua{is:List Nat}{b:CSs}{ys:List PV}:M8 pol0 Φ is b (.tup ys::xs) ρ σ=(kTT pol0 Φ b σ (Bx is ys ρ)).bind fun r=>match r.1 with
 |.next=>M8 pol0 Φ is b xs r.2.1 r.2.2
 |.ret v=>.ok (.ret v,r.2.1,r.2.2):=by
 show Res.bind (match Bx is ys ρ with|some ρ'=>exs pol0 Φ b ρ' σ|none=>Res.stk) _=_
 cases Bx is ys ρ<;>rfl
inductive TStep(pol:Pol)(Φ:Phi){β:Type}(is:List Nat)(b:CSs)(R:β→PEnv)(S:β→Sto)(I:β→Prop)(s:β)(x:PV):Prop
 |mk (ys:List PV) (ρ1:PEnv) (s':β) (e1:x=.tup ys) (e2:Bx is ys (R s)=some ρ1) (e3:exs pol Φ b ρ1 (S s)=.ok (.next,R s',S s')) (e4:I s'):TStep pol Φ is b R S I s x
theorem Xs{β:Type}{is:List Nat}{b:CSs}{xs:List PV}(R:β→PEnv)(S:β→Sto)(Inv:List PV→β→Prop)
 (h:∀pre s x post,xs=pre++x::post→Inv pre s→TStep pol Φ is b R S (Inv (pre++[x])) s x)
 {s:β} (hs:Inv [] s):∃s',M8 pol Φ is b xs (R s) (S s)=.ok (.next,R s',S s')∧Inv xs s':=by
 have go:∀(post pre:List PV) (s:β),xs=pre++post→Inv pre s→∃s',M8 pol Φ is b post (R s) (S s)=.ok (.next,R s',S s')∧Inv xs s':=by
  intro post
  induction post with
  |nil=>intro pre s e hi;exact⟨s,rfl,by rw[e];simpa using hi⟩
  |cons x post ih=>
   intro pre s e hi
   obtain⟨ys,ρ1,s1,rfl,h0,h1,h2⟩:=h pre s x post e hi
   obtain⟨s2,h3,h4⟩:=ih (pre++[.tup ys]) s1 (by rw[e];simp) h2
   refine⟨s2,?_,h4⟩
   rw[Ua,h0]
   show Res.bind (exs pol Φ b ρ1 (S s)) _=_
   rw[h1]
   exact h3
 exact go xs [] s rfl hs
noncomputable abbrev kcW(kd:Cs)(xs ys pairs:List PV)(a b c d f:Option Val):List (Option Val):=[some (.v (kcol kd xs)),some (.v (kcol kd ys)),some (.v (.lst pairs)),a,b,c,d,f]
theorem Hj(hk:K2 kd)(hl:xs.length+ys.length≤4096){pairs:List PV}(hp:∀p∈pairs,PairOk xs.length ys.length p)(hl2:pairs.length≤4096):
 A1 pol (phi pol codes (n+5)) 61 false [.v (kcol kd xs),.v (kcol kd ys),.v (.lst pairs)] σ=.ok (.v (kcol kd (pairs.map fun p=>Ao (xs++ys) (Dq xs.length p))),σ):=by
 have l1:∀{f:PV→PV},(pairs.map f).length≤4096:=fun{f}=>Nat.le_trans (Nat.le_of_eq (List.length_map f)) hl2
 obtain⟨⟨acc,u,w⟩,L1,I1⟩:=Xs (Φ:=phi pol codes (n+4)) (is:=[6,7]) (b:=(.cons (.expr (.meth .append (.var 0 5) (.cons (.ite (.cmp .is (.var 0 6) (.cst .none)) (.bin .add (.var 0 4) (.var 0 7)) (.var 0 6)) .nil))) .nil)) (xs:=pairs)
  (fun(s:List PV×Option Val×Option Val)=>[kcW kd xs ys pairs (some (.v (kcol kd (xs++ys)))) (some (.v (.int xs.length))) (some (.h 0)) s.2.1 s.2.2]) (fun s=>[.list s.1])
  (fun pre s=>s.1=pre.map (Dq xs.length))
  (fun pre s x post e hi=>by
   have ha:s.1.length≤4096:=by rw[hi,List.length_map];exact Fi e hl2
   have hj:∀{z:PV},Dq xs.length x=z→s.1++[z]=(pre++[x]).map (Dq xs.length):=fun h=>by rw[hi,List.map_append,←h];rfl
   cases hp x (by rw[e];exact List.mem_append_right _ List.mem_cons_self)with
   |both i j h1 h2=>exact⟨_,_,(s.1++[.int i],some (.v (.int i)),some (.v (.int j))),rfl,rfl,Af (B2 (As rfl rfl) rfl (Co (Ag (A0 rfl) rfl rfl) (A0 rfl)) ha) rfl,hj rfl⟩
   |left i h1=>exact⟨_,_,(s.1++[.int i],some (.v (.int i)),some (.v .none)),rfl,rfl,Af (B2 (As rfl rfl) rfl (Co (Ag (A0 rfl) rfl rfl) (A0 rfl)) ha) rfl,hj rfl⟩
   |right j h2=>exact⟨_,_,(s.1++[.int (xs.length+j)],some (.v .none),some (.v (.int j))),rfl,rfl,Af (B2 (As rfl rfl) rfl (El (Ag (A0 rfl) rfl rfl) (D2 (A0 rfl) (A0 rfl) rfl)) ha) rfl,hj rfl⟩)
  (s:=([],none,none)) rfl
 rw[show acc=_ from I1]at L1
 have hq:∀x∈pairs.map (Dq xs.length),PlOk (xs++ys).length x:=fun x hx=>by
  obtain⟨p,hp',rfl⟩:=List.mem_map.mp hx
  have key:∀i:Nat,i<xs.length+ys.length→PlOk (xs++ys).length (.int i):=fun i h=>⟨Int.natCast_nonneg i,Int.ofNat_lt.mpr (Nat.lt_of_lt_of_eq h List.length_append.symm)⟩
  cases hp p hp' with
  |both i j h1 h2=>exact key i (Nat.lt_of_lt_of_le h1 (Nat.le_add_right _ _))
  |left i h1=>exact key i (Nat.lt_of_lt_of_le h1 (Nat.le_add_right _ _))
  |right j h2=>exact key _ (Nat.add_lt_add_left h2 _)
 refine A4 (row:=kcW kd xs ys pairs none none none none none) (x:=kcol kd (pairs.map fun p=>Ao (xs++ys) (Dq xs.length p))) rfl rfl rfl rfl ?_
 refine Ab (A5 (A2 (A3 (Ff (A7 (A0 rfl) (A3 (A0 rfl))) rfl)) (Zb hk hl)) (A5 (Bf (Al (A0 rfl) rfl rfl) rfl (Hb hl)) (A5 (v:=.h 0) rfl (Ww (A0 rfl) rfl rfl L1 (Aa (A2 (A7 (A0 rfl) (A3 (As rfl rfl))) ((Ec (ps:=[kcol kd (xs++ys),.lst (pairs.map (Dq xs.length))]) rfl rfl).trans (Cl hk hq (Nat.le_trans (Nat.le_of_eq List.length_append) hl) l1)))))))) ?_
 exact congrArg (fun l=>Res.ok (kcol kd l)) List.map_map
end
end Mine.Internal
namespace Mine.Internal
open PySem
section
variable {pol0:Pol} {Φ:Phi} {ρ:PEnv} {σ σ':Sto} {m:Bool} {n:Nat} {k i a:PV} {xs ys cols names rl:List PV} {kd:Cs}
noncomputable def SI(kd:Cs)(x:PV):Prop:=x=.none∨(kd=A9∧∃i,x=.int i)∨(kd=A8∧∃s,x=.str s)
noncomputable def SCol(L:Nat)(c:PV):Prop:=∃kd xs,c=kcol kd xs∧K2 kd∧xs.length=L∧∀x∈xs,SI kd x
noncomputable def tl:Nat→CSs→CSs
 |0,c=>c
 |n+1,.cons _ c=>tl n c
 |_+1,.nil=>.nil
theorem It{i:Nat}{it:CE}{b r:CSs}{v w:Val}{x:PV}{ρ':PEnv}{σ1 σ2:Sto}(h:ev pol Φ ρ false it σ=.ok (v,σ1))(h1:frz σ1 v=some (x,σ2))(h2:Az x=some xs)(hb:forB pol Φ i b xs ρ σ2=.ok (.ret w,ρ',σ')):exs pol Φ (.cons (.forS i it b) r) ρ σ=.ok (.ret w,ρ',σ'):=
 Res.bind_at (f:=cSeq pol Φ r) (a:=(.ret w,ρ',σ')) ((Res.bind_at (f:=cFor pol Φ i b ρ) h).trans ((congrArg (A0n pol Φ i b ρ) h1).trans ((congrArg (kFor pol Φ i b ρ σ2) h2).trans hb)))
theorem A17{i:Nat}{b:CSs}{x:PV}{ρ':PEnv}{v:Val}(h1:exs pol Φ b (setV ρ i (.v x)) σ=.ok (.ret v,ρ',σ')):forB pol Φ i b (x::xs) ρ σ=.ok (.ret v,ρ',σ'):=Res.bind_at h1
theorem Hl{x:PV}(h:SI kd x)(hk:K2 kd):∃b,(b=true↔x=.none)∧∀(σ:Sto) (n:Nat),A1 pol (phi pol codes (n+1)) 44 false [.v (.str kd),.v x] σ=.ok (.v (.bool b),σ):=by
 rcases h with rfl|⟨rfl,j,rfl⟩|⟨rfl,s,rfl⟩
 ·exact⟨true,⟨fun J=>rfl,fun J=>rfl⟩,fun σ n=>A4 (row:=[some (.v (.str kd)),some (.v .none)]) (x:=.bool true) rfl rfl rfl rfl (Ab (Aa (P6 (Ag (A0 rfl) rfl rfl))) rfl)⟩
 ·exact⟨false,⟨fun q=>(nomatch q),fun q=>(nomatch q)⟩,fun σ n=>A4 (row:=[some (.v (.str A9)),some (.v (.int j))]) (x:=.bool false) rfl rfl rfl rfl rfl⟩
 ·exact⟨false,⟨fun q=>(nomatch q),fun q=>(nomatch q)⟩,fun σ n=>A4 (row:=[some (.v (.str A8)),some (.v (.str s))]) (x:=.bool false) rfl rfl rfl rfl rfl⟩
theorem Oa{x y:PV}{a b:Bool}(hd:eqP (.str kd) (.str Dg)=some false)(h1:cmpP .lt x y=some a)(h2:cmpP .gt x y=some b):∃c:Int,∀(σ:Sto) (n:Nat),A1 pol (phi pol codes (n+1)) 45 false [.v (.str kd),.v x,.v y] σ=.ok (.v (.int c),σ):=by
 have go:∀c:Int,(∀n:Nat,retv (exs pol (phi pol codes n) (tl 1 Ex.body) [[some (.v (.str kd)),some (.v x),some (.v y)]] [])=.ok (.int c))→∃c:Int,∀(σ:Sto) (n:Nat),A1 pol (phi pol codes (n+1)) 45 false [.v (.str kd),.v x,.v y] σ=.ok (.v (.int c),σ):=fun c h=>
  ⟨c,fun σ n=>A4 (row:=[some (.v (.str kd)),some (.v x),some (.v y)]) (x:=.int c) rfl rfl rfl rfl (Ab (A6 (D6 (A0 rfl) rfl hd) rfl) (h n))⟩
 induction a using Bool.casesOn with
 |true=>exact go (-1) fun n=>Ab (Ai (Ag (A0 rfl) (A0 rfl) h1) (Ck (Aa rfl))) rfl
 |false=>
  induction b using Bool.casesOn with
  |true=>exact go 1 fun n=>Ab (A6 (Ag (A0 rfl) (A0 rfl) h1) (Ai (Ag (A0 rfl) (A0 rfl) h2) (Ck (Aa rfl)))) rfl
  |false=>exact go 0 fun n=>Ab (A6 (Ag (A0 rfl) (A0 rfl) h1) (A6 (Ag (A0 rfl) (A0 rfl) h2) (Aa rfl))) rfl
theorem K7{x y:PV}(hx:SI kd x)(hy:SI kd y)(nx:x≠.none)(ny:y≠.none):∃c:Int,∀(σ:Sto) (n:Nat),A1 pol (phi pol codes (n+1)) 45 false [.v (.str kd),.v x,.v y] σ=.ok (.v (.int c),σ):=by
 rcases hx with rfl|⟨rfl,j,rfl⟩|⟨rfl,s,rfl⟩
 ·exact absurd rfl nx
 ·rcases hy with rfl|⟨_,l,rfl⟩|⟨e,_⟩
  ·exact absurd rfl ny
  ·exact Oa rfl rfl rfl
  ·cases e
 ·rcases hy with rfl|⟨e,_⟩|⟨_,u,rfl⟩
  ·exact absurd rfl ny
  ·cases e
  ·exact Oa rfl rfl rfl
theorem Iv(hk:K2 kd):A1 pol (phi pol codes (n+1)) 46 false [.v (kcol kd xs)] σ=.ok (.v .none,σ):=by
 rcases hk with rfl|rfl<;>exact A4 (row:=[some (.v (kcol _ xs))]) (x:=.none) rfl rfl rfl rfl (by rfl)
noncomputable abbrev cpW(kd:Cs)(xs:List PV)(p q:Nat)(a b c d:Option Val):List (Option Val):=[some (.v (kcol kd xs)),some (.v (.int p)),some (.v (.int q)),some (.v (.bool false)),some (.v (.bool true)),a,b,c,d,none]
theorem Cu{L:Nat}{c:PV}(h:SCol L c)(hL:L≤4096){p q:Nat}(hp:p<L)(hq:q<L):∃r:Int,∀(σ:Sto) (n:Nat),A1 pol (phi pol codes (n+2)) 47 false [.v c,.v (.int p),.v (.int q),.v (.bool false),.v (.bool true)] σ=.ok (.v (.int r),σ):=by
 obtain⟨kd,xs,rfl,hk,hl,hi⟩:=h
 have hp':=Nat.lt_of_lt_of_eq hp hl.symm
 have hq':=Nat.lt_of_lt_of_eq hq hl.symm
 have sp:subP (.lst xs) (.int p)=some xs[p]:=Kr (Nat.le_trans (Nat.le_of_eq hl) hL) hp'
 have sq:subP (.lst xs) (.int q)=some xs[q]:=Kr (Nat.le_trans (Nat.le_of_eq hl) hL) hq'
 have ip:=hi _ (List.getElem_mem hp')
 have iq:=hi _ (List.getElem_mem hq')
 obtain⟨bp,ep,lp⟩:=Hl ip hk
 obtain⟨bq,eq,lq⟩:=Hl iq hk
 have big:∀r:Int,(∀(n:Nat),retv (exs pol (phi pol codes (n+1)) (tl 4 Ed.body) [cpW kd xs p q (some (.v xs[p])) (some (.v xs[q])) (some (.v (.bool bp))) (some (.v (.bool bq)))] [])=.ok (.int r))→
  ∃r:Int,∀(σ:Sto) (n:Nat),A1 pol (phi pol codes (n+2)) 47 false [.v (kcol kd xs),.v (.int p),.v (.int q),.v (.bool false),.v (.bool true)] σ=.ok (.v (.int r),σ):=
  fun r h=>⟨r,fun σ n=>A4 (row:=cpW kd xs p q none none none none) (x:=.int r) rfl rfl rfl rfl (Ab (A5 (Aj (Al (A0 rfl) rfl rfl) (A0 rfl) rfl sp) (A5 (Aj (Al (A0 rfl) rfl rfl) (A0 rfl) rfl sq) (A5 (A2 (A7 (Al (A0 rfl) rfl rfl) (A3 (A0 rfl))) (lp _ n)) (A5 (A2 (A7 (Al (A0 rfl) rfl rfl) (A3 (A0 rfl))) (lq _ n)) rfl)))) (h n))⟩
 induction bp using Bool.casesOn with
 |true=>
  cases bq with
  |true=>exact big 0 fun n=>Ab (Ai (Di (z:=true) (A0 rfl) (A0 rfl)) (Ck (Aa rfl))) rfl
  |false=>exact big 1 fun n=>Ab (A6 (Di (z:=false) (A0 rfl) (A0 rfl)) (Ai (A0 rfl) (Ck (Aa (El (A0 rfl) rfl))))) rfl
 |false=>
  cases bq with
  |true=>exact big (-1) fun n=>Ab (A6 (Em (A0 rfl)) (A6 (A0 rfl) (Ai (A0 rfl) (Ck (Aa (El (A0 rfl) rfl)))))) rfl
  |false=>
   obtain⟨r,hr⟩:=K7 ip iq (fun e=>nomatch ep.mpr e) (fun e=>nomatch eq.mpr e)
   exact big r fun n=>Ab (A6 (Em (A0 rfl)) (A6 (A0 rfl) (A6 (A0 rfl) (A5 (A2 (A7 (Al (A0 rfl) rfl rfl) (A7 (A0 rfl) (A3 (A0 rfl)))) (hr _ n)) (Aa (Co (A0 rfl) (A0 rfl))))))) rfl
noncomputable def SVs(L:Nat)(vs:List PV):Prop:=(∃c,vs=[c]∧SCol L c)∨(∃c d,vs=[c,d]∧SCol L c∧SCol L d)
noncomputable def fls(vs:List PV):PV:=.lst (vs.map fun J=>.bool false)
noncomputable abbrev ckB:CSs:=(.cons (.asg 6 false (.callF 47 (.cons (.sub (.var 0 0) (.var 0 5)) (.cons (.var 0 1) (.cons (.var 0 2) (.cons (.sub (.var 0 3) (.var 0 5)) (.cons (.var 0 4) .nil))))))) (.cons (.ifS (.cmp .ne (.var 0 6) (.cst (.int (0)))) (.cons (.ret false (.var 0 6)) .nil) .nil) .nil))
noncomputable abbrev ckR(vs:List PV)(p q:Nat)(a b:Option Val):PEnv:=[[some (.v (.lst vs)),some (.v (.int p)),some (.v (.int q)),some (.v (fls vs)),some (.v (.bool true)),a,b]]
theorem Kl{vs:List PV}{p q:Nat}{j r:Int}{c:PV}{a b:Option Val}(h1:subP (.lst vs) (.int j)=some c)(h2:subP (fls vs) (.int j)=some (.bool false))(hr:∀(σ:Sto) (n:Nat),A1 pol (phi pol codes (n+2)) 47 false [.v c,.v (.int p),.v (.int q),.v (.bool false),.v (.bool true)] σ=.ok (.v (.int r),σ)):
 (r=0∧exs pol (phi pol codes (n+2)) ckB (setV (ckR vs p q a b) 5 (.v (.int j))) []=.ok (.next,ckR vs p q (some (.v (.int j))) (some (.v (.int r))),[]))∨r≠0∧exs pol (phi pol codes (n+2)) ckB (setV (ckR vs p q a b) 5 (.v (.int j))) []=.ok (.ret (.v (.int r)),ckR vs p q (some (.v (.int j))) (some (.v (.int r))),[]):=by
 have go:∀{R},exs pol (phi pol codes (n+2)) (tl 1 ckB) (ckR vs p q (some (.v (.int j))) (some (.v (.int r)))) []=R→exs pol (phi pol codes (n+2)) ckB (setV (ckR vs p q a b) 5 (.v (.int j))) []=R:=fun k=>A5 (A2 (A7 (Aj (A0 rfl) (A0 rfl) rfl h1) (A7 (A0 rfl) (A7 (A0 rfl) (A7 (Aj (v:=.v (fls vs)) (A0 rfl) (A0 rfl) rfl h2) (A3 (A0 rfl)))))) (hr _ n)) k
 by_cases h0:r=0
 ·subst h0;exact .inl ⟨rfl,go (A6 (D5 (z:=true) (A0 rfl) rfl rfl) rfl)⟩
 ·exact .inr ⟨h0,go (Ai (D5 (z:=false) (A0 rfl) rfl (congrArg some (decide_eq_false h0))) (Ck (Aa (A0 rfl))))⟩
theorem Ld{L:Nat}{vs:List PV}(h:SVs L vs)(hL:L≤4096){p q:Nat}(hp:p<L)(hq:q<L):∃r:Int,∀(σ:Sto) (n:Nat),A1 pol (phi pol codes (n+3)) 48 false [.v (.lst vs),.v (.int p),.v (.int q),.v (fls vs),.v (.bool true)] σ=.ok (.v (.int r),σ):=by
 have ok:∀{r:Int},(∀n:Nat,retv (exs pol (phi pol codes (n+2)) Fw.body (ckR vs p q none none) [])=.ok (.int r))→∃r:Int,∀(σ:Sto) (n:Nat),A1 pol (phi pol codes (n+3)) 48 false [.v (.lst vs),.v (.int p),.v (.int q),.v (fls vs),.v (.bool true)] σ=.ok (.v (.int r),σ):=
  fun{r} h=>⟨r,fun σ n=>A4 (row:=[some (.v (.lst vs)),some (.v (.int p)),some (.v (.int q)),some (.v (fls vs)),some (.v (.bool true)),none,none]) (x:=.int r) rfl rfl rfl rfl (h n)⟩
 rcases h with⟨c,rfl,hc⟩|⟨c,d,rfl,hc,hd⟩
 ·obtain⟨r,hr⟩:=Cu hc hL hp hq
  have it:∀{Φ σ},ev pol Φ (ckR [c] p q none none) false (.callB .range (.cons (.callB .len (.cons (.var 0 0) .nil)) .nil)) σ=.ok (.v (.rng 0 1 1),σ):=rfl
  refine ok (r:=r) fun n=>?_
  rcases Kl (n:=n) (vs:=[c]) (j:=0) (a:=none) (b:=none) rfl rfl hr with⟨rfl,t⟩|⟨_,t⟩
  ·exact Ab (Am it rfl (B5 (L:=1) (by decide)) (Bk t rfl) (Aa rfl)) rfl
  ·exact Ab (It it rfl (B5 (L:=1) (by decide)) (A17 t)) rfl
 ·obtain⟨r,hr⟩:=Cu hc hL hp hq
  obtain⟨r2,hr2⟩:=Cu hd hL hp hq
  have it:∀{Φ σ},ev pol Φ (ckR [c,d] p q none none) false (.callB .range (.cons (.callB .len (.cons (.var 0 0) .nil)) .nil)) σ=.ok (.v (.rng 0 2 1),σ):=rfl
  by_cases h0:r=0
  ·subst h0
   refine ok (r:=r2) fun n=>?_
   rcases Kl (n:=n) (vs:=[c,d]) (j:=0) (a:=none) (b:=none) rfl rfl hr with⟨_,t⟩|⟨q,_⟩
   ·rcases Kl (n:=n) (vs:=[c,d]) (j:=1) (a:=some (.v (.int 0))) (b:=some (.v (.int 0))) rfl rfl hr2 with⟨rfl,t2⟩|⟨_,t2⟩
    ·exact Ab (Am it rfl (B5 (L:=2) (by decide)) (Bk t (Bk t2 rfl)) (Aa rfl)) rfl
    ·exact Ab (It it rfl (B5 (L:=2) (by decide)) (Bk t (A17 t2))) rfl
   ·exact absurd rfl q
  ·refine ok (r:=r) fun n=>?_
   rcases Kl (n:=n) (vs:=[c,d]) (j:=0) (a:=none) (b:=none) rfl rfl hr with⟨q,_⟩|⟨_,t⟩
   ·exact absurd q h0
   ·exact Ab (It it rfl (B5 (L:=2) (by decide)) (A17 t)) rfl
end
end Mine.Internal
namespace Mine.Internal
open PySem
section
variable {pol0:Pol} {Φ:Phi} {ρ:PEnv} {σ σ':Sto} {m:Bool} {n:Nat} {k i a:PV} {xs ys cols names rl:List PV} {kd:Cs} {L:Nat} {vs:List PV}
noncomputable abbrev pv(ps:List Nat):List PV:=ps.map fun(i:Nat)=>PV.int i
noncomputable abbrev mrC:CE:=(.boolE true (.cons (.cmp .lt (.var 0 6) (.callB .len (.cons (.var 0 0) .nil))) (.cons (.cmp .lt (.var 0 7) (.callB .len (.cons (.var 0 1) .nil))) .nil)))
noncomputable abbrev mrB:CSs:=(.cons (.ifS (.cmp .le (.callF 48 (.cons (.var 0 2) (.cons (.sub (.var 0 0) (.var 0 6)) (.cons (.sub (.var 0 1) (.var 0 7)) (.cons (.var 0 3) (.cons (.var 0 4) .nil)))))) (.cst (.int (0)))) (.cons (.expr (.meth .append (.var 0 5) (.cons (.sub (.var 0 0) (.var 0 6)) .nil))) (.cons (.aug 6 .add (.cst (.int (1)))) .nil)) (.cons (.expr (.meth .append (.var 0 5) (.cons (.sub (.var 0 1) (.var 0 7)) .nil))) (.cons (.aug 7 .add (.cst (.int (1)))) .nil))) .nil)
noncomputable abbrev mrR(l r:List Nat)(vs:List PV)(i j:Nat):PEnv:=[[some (.v (.lst (pv l))),some (.v (.lst (pv r))),some (.v (.lst vs)),some (.v (fls vs)),some (.v (.bool true)),some (.h 0),some (.v (.int i)),some (.v (.int j))]]
theorem Vh{ps:List Nat}{i:Nat}(hl:ps.length≤4096)(hi:i<ps.length):subP (.lst (pv ps)) (.int i)=some (.int ps[i]):=F8 hl hi
theorem mr1{k a b x:Nat}(h:x<a)(q:a-x+b<k+1):a-(x+1)+b<k:=by
 have e:a-x=a-(x+1)+1:=by rw[←Nat.sub_sub,Nat.sub_add_cancel (Nat.sub_pos_of_lt h)]
 rw[e,Nat.add_right_comm]at q
 exact Nat.lt_of_succ_lt_succ q
theorem mr2{k a b x c:Nat}(h:x<a)(q:c+(a-x)+b≤k):c+1+(a-(x+1))+b≤k:=by
 have e:a-x=a-(x+1)+1:=by rw[←Nat.sub_sub,Nat.sub_add_cancel (Nat.sub_pos_of_lt h)]
 rw[e,←Nat.add_assoc,Nat.add_right_comm c]at q
 exact q
theorem C9{ps:List Nat}:(pv ps).length=ps.length:=List.length_map _
theorem Vs{ps:List Nat}{p:Nat}:pv (ps++[p])=pv ps++[.int p]:=List.map_append
theorem A5x{l r:List Nat}{i j:Nat}(l1:l.length≤4096)(l2:r.length≤4096)(c1:i<l.length){b:Bool}(c2:cmpP .lt (.int j) (.int (pv r).length)=some b){acc:List PV}:
 ev pol Φ (mrR l r vs i j) false mrC [.list acc]=.ok (.v (.bool b),[.list acc]):=
 Di (Ag (A0 rfl) (Bf (A0 rfl) rfl (Nat.le_trans (Nat.le_of_eq C9) l1)) (Aa6 (Nat.lt_of_lt_of_eq c1 C9.symm))) (Ag (A0 rfl) (Bf (A0 rfl) rfl (Nat.le_trans (Nat.le_of_eq C9) l2)) c2)
theorem A42(hv:SVs L vs)(hL:L≤4096){l r:List Nat}(hl:∀x∈l,x<L)(hr:∀x∈r,x<L)(l1:l.length≤4096)(l2:r.length≤4096):∀(k i j:Nat) (acc:List Nat),i≤l.length→j≤r.length→(l.length-i)+(r.length-j)<k→acc.length+(l.length-i)+(r.length-j)≤4096→
 ∃i' j' acc',whB pol (phi pol codes (n+3)) mrC mrB k (mrR l r vs i j) [.list (pv acc)]=.ok (.next,mrR l r vs i' j',[.list (pv acc')])∧(acc'++l.drop i'++r.drop j').Perm (acc++l.drop i++r.drop j)∧i'≤l.length∧j'≤r.length:=by
 intro k
 induction k with
 |zero=>intro i j acc _ _ h;exact absurd h (Nat.not_lt_zero _)
 |succ k ih=>
  intro i j acc hi hj hk ha
  have la:(pv acc).length≤4096:=Nat.le_trans (Nat.le_of_eq C9) (Hb (Hb ha))
  by_cases c1:i<l.length
  ·by_cases c2:j<r.length
   ·obtain⟨c,hc⟩:=Ld hv hL (hl _ (List.getElem_mem c1)) (hr _ (List.getElem_mem c2))
    have s1:=Vh l1 c1
    have s2:=Vh l2 c2
    have cd:=A5x (Φ:=phi pol codes (n+3)) (vs:=vs) l1 l2 c1 (Aa6 (Nat.lt_of_lt_of_eq c2 C9.symm)) (acc:=pv acc)
    by_cases c3:c≤0
    ·obtain⟨i',j',acc',e1,e2,e3,e4⟩:=ih (i+1) j (acc++[l[i]]) c1 hj (mr1 c1 hk) (by rw[List.length_append];exact mr2 c1 ha)
     rw[Vs]at e1
     refine⟨i',j',acc',Il cd (Oj (Ai (Ag (A2 (A7 (A0 rfl) (A7 (Aj (A0 rfl) (A0 rfl) rfl s1) (A7 (Aj (A0 rfl) (A0 rfl) rfl s2) (A7 (A0 rfl) (A3 (A0 rfl)))))) (hc _ n)) rfl (congrArg some (decide_eq_true c3))) (B8 (Af (B2 (As rfl rfl) rfl (Aj (A0 rfl) (A0 rfl) rfl s1) la) (Qu rfl rfl rfl rfl)) rfl)) e1),e2.trans ?_,e3,e4⟩
     rw[List.drop_eq_getElem_cons c1,List.append_assoc acc [l[i]]]
     exact .refl _
    ·obtain⟨i',j',acc',e1,e2,e3,e4⟩:=ih i (j+1) (acc++[r[j]]) hi c2 (by rw[Nat.add_comm]at hk⊢;exact mr1 c2 hk) (by rw[List.length_append,Nat.add_right_comm];rw[Nat.add_right_comm]at ha;exact mr2 c2 ha)
     rw[Vs]at e1
     refine⟨i',j',acc',Il cd (Oj (Ej (Ag (A2 (A7 (A0 rfl) (A7 (Aj (A0 rfl) (A0 rfl) rfl s1) (A7 (Aj (A0 rfl) (A0 rfl) rfl s2) (A7 (A0 rfl) (A3 (A0 rfl)))))) (hc _ n)) rfl (congrArg some (decide_eq_false c3))) (B8 (Af (B2 (As rfl rfl) rfl (Aj (A0 rfl) (A0 rfl) rfl s2) la) (Qu rfl rfl rfl rfl)) rfl)) e1),e2.trans ?_,e3,e4⟩
     rw[List.drop_eq_getElem_cons c2,List.append_assoc,List.append_assoc,List.append_assoc]
     exact .append_left acc (List.perm_middle (a:=r[j]) (l₁:=l.drop i) (l₂:=r.drop (j+1))).symm
   ·exact⟨i,j,acc,Il (A5x l1 l2 c1 (Aa5 fun q=>c2 (Nat.lt_of_lt_of_eq q C9))) rfl,.refl _,hi,hj⟩
  ·exact⟨i,j,acc,Il (Em (Ag (A0 rfl) (Bf (A0 rfl) rfl (Nat.le_trans (Nat.le_of_eq C9) l1)) (Aa5 fun q=>c1 (Nat.lt_of_lt_of_eq q C9)))) rfl,.refl _,hi,hj⟩
theorem Ow(hv:SVs L vs)(hL:L≤4096){l r:List Nat}(hl:∀x∈l,x<L)(hr:∀x∈r,x<L)(h64:l.length+r.length<64):
 ∃o:List Nat,o.Perm (l++r)∧∀σ:Sto,A1 pol (phi pol codes (n+4)) 49 false [.v (.lst (pv l)),.v (.lst (pv r)),.v (.lst vs),.v (fls vs),.v (.bool true)] σ=.ok (.v (.lst (pv o)),σ):=by
 have h6:=Nat.le_trans (Nat.le_of_lt h64) (show 64≤4096 by decide)
 have b1:=Hb h6
 have b2:=Nat.le_trans (Nat.le_add_left r.length l.length) h6
 obtain⟨i',j',acc',e1,e2,e3,e4⟩:=A42 (n:=n) hv hL hl hr b1 b2 FUEL 0 0 [] (Nat.zero_le _) (Nat.zero_le _) h64 (by rw[List.length_nil,Nat.zero_add];exact Nat.le_trans (Nat.le_of_lt h64) (by decide))
 have q2:acc'.length+(l.length-i')+(r.length-j')≤4096:=by
  have:=e2.length_eq
  rw[List.length_append,List.length_append,List.length_drop,List.length_drop]at this
  rw[this]
  rw[List.nil_append,List.drop_zero,List.drop_zero,List.length_append]
  exact h6
 have sl:∀{xs:List Nat} {k:Nat} {τ:Sto},xs.length≤4096→slcP (some (k:Int)) none (.lst (pv xs)) false τ=some (.v (.lst ((pv xs).drop k)),τ):=fun{xs k τ} h=>if_pos (by rw[decide_eq_true (Int.natCast_nonneg k),show small (pv xs).length=true from decide_eq_true (Nat.le_trans (Nat.le_of_eq C9) h)];rfl)
 have ld:∀{xs:List Nat} {k:Nat},((pv xs).drop k).length=xs.length-k:=fun{xs k}=>by rw[List.length_drop,C9]
 have sm:∀{k:Nat},k≤4096→small k=true:=fun h=>decide_eq_true h
 refine⟨acc'++l.drop i'++r.drop j',by rw[List.drop_zero,List.drop_zero,List.nil_append]at e2;exact e2,fun σ=>?_⟩
 refine A4 (row:=[some (.v (.lst (pv l))),some (.v (.lst (pv r))),some (.v (.lst vs)),some (.v (fls vs)),some (.v (.bool true)),none,none,none]) (x:=.lst (pv (acc'++l.drop i'++r.drop j'))) rfl rfl rfl rfl (Ab (A5 (v:=.h 0) rfl (A5 (v:=.v (.int 0)) rfl (A5 (v:=.v (.int 0)) rfl (Qs e1 (Aa (D2 (Vq (z:=(.v (.lst (pv acc'++(pv l).drop i')),_)) (As rfl rfl) (Tn (A0 rfl) (A0 rfl) (sl b1)) rfl rfl (if_pos (sm ?_))) (Tn (A0 rfl) (A0 rfl) (sl b2)) (if_pos (sm ?_)))))))) ?_)
 ·rw[C9,ld];exact Hb q2
 ·rw[List.length_append,C9,ld,ld];exact q2
 ·show Res.ok (PV.lst _)=_
  rw[pv,pv,pv,pv,List.map_append,List.map_append,List.map_drop,List.map_drop]
end
end Mine.Internal
namespace Mine.Internal
open PySem
section
variable {pol0:Pol} {Φ:Phi} {ρ:PEnv} {σ σ':Sto} {m:Bool} {n:Nat} {k i a:PV} {xs ys cols names rl:List PV} {kd:Cs} {L:Nat} {vs:List PV}
noncomputable abbrev rr(runs:List (List Nat)):List PV:=runs.map fun ps=>PV.lst (pv ps)
theorem Zg{b:Nat}(hb:1≤b):rngL 0 b 2=(List.range ((b+1)/2)).map fun(i:Nat)=>PV.int ((2*i:Nat):Int):=by
 unfold rngL rngN
 rw[if_pos (Int.natCast_pos.mpr hb)]
 have e:(((b:Int)-0-1)/2+1).toNat=(b+1)/2:=by
  induction b using Nat.casesOn with
  |zero=>exact absurd hb (Nat.not_succ_le_zero 0)
  |succ c=>
   rw[Int.sub_zero,Int.natCast_succ,Int.add_sub_cancel]
   exact(Nat.add_div_right c Nat.two_pos).symm
 rw[e]
 refine List.map_congr_left fun i J=>congrArg PV.int ?_
 rw[Int.zero_add,Int.mul_comm];rfl
theorem Xn{b:Nat}(hb:1≤b)(h:b≤4096):Az (.rng 0 b 2)=some ((List.range ((b+1)/2)).map fun(i:Nat)=>PV.int ((2*i:Nat):Int)):=by
 rw[Ju,Qi h,Zg hb];rfl
structure Hld(σ0:Sto)(RV:Val)(R:List PV):Prop where
 pk:∀τ,pk (σ0++τ) RV=some (.lst R)
 norm:∀τ,norm (σ0++τ) RV=RV
theorem Hld.v{σ0:Sto}{R:List PV}:Hld σ0 (.v (.lst R)) R:=⟨fun J=>rfl,fun J=>rfl⟩
theorem Hld.h{σ0:Sto}{R:List PV}:Hld (σ0++[.list R]) (.h σ0.length) R:=by
 have e:∀τ,(σ0++[PO.list R]++τ)[σ0.length]?=some (.list R):=fun τ=>by rw[List.append_assoc,List.getElem?_append_right (Nat.le_refl _),Nat.sub_self];rfl
 exact⟨fun τ=>congrArg (fun(o:Option PO)=>o.bind pkO) (e τ),fun τ=>Er (e τ)⟩
theorem Hld.pk0{σ0:Sto}{RV:Val}{R:List PV}(h:Hld σ0 RV R):Mine.Internal.pk σ0 RV=some (.lst R):=by simpa using h.pk []
theorem Hld.norm0{σ0:Sto}{RV:Val}{R:List PV}(h:Hld σ0 RV R):Mine.Internal.norm σ0 RV=RV:=by simpa using h.norm []
noncomputable abbrev msF:CSs:=(.cons (.expr (.meth .append (.var 0 5) (.cons (.callF 49 (.cons (.sub (.var 0 4) (.var 0 6)) (.cons (.sub (.var 0 4) (.bin .add (.var 0 6) (.cst (.int (1))))) (.cons (.var 0 1) (.cons (.var 0 2) (.cons (.var 0 3) .nil)))))) .nil))) .nil)
noncomputable abbrev msC:CE:=(.cmp .gt (.callB .len (.cons (.var 0 4) .nil)) (.cst (.int (1))))
noncomputable abbrev msB:CSs:=(.cons (.asg 5 true (.lstE .nil)) (.cons (.forS 6 (.callB .range (.cons (.cst (.int (0))) (.cons (.bin .sub (.callB .len (.cons (.var 0 4) .nil)) (.cst (.int (1)))) (.cons (.cst (.int (2))) .nil)))) msF) (.cons (.ifS (.cmp .eq (.bin .mod (.callB .len (.cons (.var 0 4) .nil)) (.cst (.int (2)))) (.cst (.int (1)))) (.cons (.expr (.meth .append (.var 0 5) (.cons (.sub (.var 0 4) (.negE (.cst (.int (1))))) .nil))) .nil) .nil) (.cons (.asg 4 false (.var 0 5)) .nil))))
noncomputable abbrev msR(P:PV)(vs:List PV)(RV:Val)(u w:Option Val):PEnv:=[[some (.v P),some (.v (.lst vs)),some (.v (fls vs)),some (.v (.bool true)),some RV,u,w]]
theorem Vg{runs:List (List Nat)}{i:Nat}(hl:runs.length≤4096)(hi:i<runs.length):subP (.lst (rr runs)) (.int i)=some (.lst (pv runs[i])):=F8 hl hi
theorem A1a{runs:List (List Nat)}{i:Nat}(h0:i<runs.length)(hi:i+1<runs.length):runs[i].length+runs[i+1].length≤runs.flatten.length:=by
 have e1:runs=runs.take i++(runs[i]::runs[i+1]::runs.drop (i+2)):=by
  rw[←List.drop_eq_getElem_cons hi,←List.drop_eq_getElem_cons h0,List.take_append_drop]
 have e2:=congrArg (fun l=>l.flatten.length) e1
 simp only[List.flatten_append,List.flatten_cons,List.length_append]at e2
 exact Nat.le_trans (Nat.le_trans (Nat.add_le_add_left (Nat.le_add_right _ _) _) (Nat.le_add_left _ _)) (Nat.le_of_eq e2.symm)
theorem Yt{runs:List (List Nat)}{i:Nat}(h0:i<runs.length)(hi:i+1<runs.length):runs.take (i+2)=runs.take i++[runs[i],runs[i+1]]:=by
 rw[List.take_add_one (i:=i+1),List.take_add_one (i:=i),List.getElem?_eq_getElem hi,List.getElem?_eq_getElem h0]
 simp only[Option.toList_some,List.append_assoc,List.cons_append,List.nil_append]
theorem A4j{p n:Nat}(h:p<n/2):2*p+1<n:=by
 have:=(Nat.le_div_iff_mul_le Nat.two_pos).mp h
 rw[Nat.succ_mul,Nat.mul_comm]at this
 exact this
theorem Gz{runs:List (List Nat)}:(rr runs).length=runs.length:=List.length_map _
theorem Vl{runs:List (List Nat)}{o:List Nat}:rr (runs++[o])=rr runs++[.lst (pv o)]:=List.map_append
noncomputable abbrev Ft(k:Nat):List PV:=(List.range k).map fun(i:Nat)=>PV.int ((2*i:Nat):Int)
theorem A7y(hv:SVs L vs)(hL:L≤4096){P:PV}{runs:List (List Nat)}(hr:∀x∈runs.flatten,x<L)(h64:runs.flatten.length<64)(h4:runs.length≤4096){σ0:Sto}{RV:Val}(hld:Hld σ0 RV (rr runs)){w:Option Val}:
 ∃s:List (List Nat),forB pol (phi pol codes (n+4)) 6 msF (Ft (runs.length/2)) (msR P vs RV (some (.h σ0.length)) w) (σ0++[.list []])=
  .ok (.next,msR P vs RV (some (.h σ0.length)) (Ch w (Ft (runs.length/2))),σ0++[.list (rr s)])∧s.length=runs.length/2∧s.flatten.Perm (runs.take (2*(runs.length/2))).flatten:=by
 have le:(Ft (runs.length/2)).length=runs.length/2:=(List.length_map _).trans List.length_range
 obtain⟨s,e1,e2,e3⟩:=Dl (Φ:=phi pol codes (n+4)) (i:=6) (b:=msF) (xs:=Ft (runs.length/2))
  (fun z (_:List (List Nat))=>msR P vs RV (some (.h σ0.length)) z) (fun s=>σ0++[.list (rr s)]) (fun pre s=>s.length=pre.length∧s.flatten.Perm (runs.take (2*pre.length)).flatten)
  (fun pre z s x post e hi=>by
   have hp2:pre.length<runs.length/2:=Nat.lt_of_lt_of_eq (Zn e) le
   have hx:some (PV.int ((2*pre.length:Nat):Int))=some x:=by
    have:=congrArg (fun l=>l[pre.length]?) e
    rw[List.getElem?_append_right (Nat.le_refl _),Nat.sub_self,List.getElem?_cons_zero,List.getElem?_map,List.getElem?_range hp2]at this
    exact this
   cases hx
   have i1:=A4j hp2
   have i0:=Nat.lt_of_succ_lt i1
   obtain⟨o,ho,hc⟩:=Ow (n:=n) hv hL (fun y hy=>hr y (List.mem_flatten.mpr ⟨_,List.getElem_mem i0,hy⟩)) (fun y hy=>hr y (List.mem_flatten.mpr ⟨_,List.getElem_mem i1,hy⟩)) (Nat.lt_of_le_of_lt (A1a i0 i1) h64)
   have hp:=hld.pk [.list (rr s)]
   have hnm:=hld.norm [.list (rr s)]
   have sl:(rr s).length≤4096:=Nat.le_trans (Nat.le_of_eq (Gz.trans hi.1)) (Nat.le_trans (Nat.le_of_lt (Nat.lt_trans (Nat.lt_of_le_of_lt (Nat.le_mul_of_pos_left _ Nat.two_pos) (Nat.lt_succ_self _)) i1)) h4)
   refine⟨s++[o],?_,by rw[List.length_append,List.length_append,hi.1];rfl,?_⟩
   ·rw[Vl]
    refine Eq.trans (Af (B2 (As rfl (Er Cv)) Cv (A2 (A7 (Aj (As rfl hnm) (A0 rfl) hp (Vg h4 i0)) (A7 (Aj (As rfl hnm) (D2 (A0 rfl) rfl rfl) hp (Vg h4 i1)) (A7 (A0 rfl) (A7 (A0 rfl) (A3 (A0 rfl)))))) (hc _)) sl) rfl) (congrArg (fun τ=>Res.ok (Fl.next,_,τ)) Es)
   ·rw[List.length_append,List.length_singleton,Nat.mul_add,Yt i0 i1,List.flatten_append,List.flatten_append]
    refine hi.2.append ?_
    rw[List.flatten_cons,List.flatten_cons,List.flatten_cons,List.flatten_nil,List.append_nil,List.append_nil]
    exact ho)
  (z:=w) (s:=[]) ⟨rfl,.refl _⟩
 exact⟨s,e1,e2.trans le,by rw[le]at e3;exact e3⟩
theorem Yv{runs:List (List Nat)}{k:Nat}(hl:runs.length≤4096)(hk:runs.length=k+1)(h:k<runs.length):subP (.lst (rr runs)) (.int (-1))=some (.lst (pv runs[k])):=by
 have e0:Ew (rr runs).length (-1)=some k:=by
  unfold Ew
  rw[Gz,if_pos (show small runs.length=true from decide_eq_true hl),if_neg (by decide),hk,Int.natCast_succ,Int.add_comm,Int.add_neg_cancel_right]
  exact if_pos (Int.natCast_nonneg k)
 rw[Vi,e0]
 show(rr runs)[k]?=_
 rw[List.getElem?_map,List.getElem?_eq_getElem h];rfl
noncomputable abbrev msL:CSs:=(.cons (.ifS (.cmp .eq (.bin .mod (.callB .len (.cons (.var 0 4) .nil)) (.cst (.int (2)))) (.cst (.int (1)))) (.cons (.expr (.meth .append (.var 0 5) (.cons (.sub (.var 0 4) (.negE (.cst (.int (1))))) .nil))) .nil) .nil) (.cons (.asg 4 false (.var 0 5)) .nil))
theorem A40(hv:SVs L vs)(hL:L≤4096){P:PV}{runs:List (List Nat)}(hr:∀x∈runs.flatten,x<L)(h64:runs.flatten.length<64)(h4:runs.length≤4096)(hc:1<runs.length){σ0:Sto}{RV:Val}(hld:Hld σ0 RV (rr runs)){u w:Option Val}:
 ∃(s:List (List Nat)) (w':Option Val),exs pol (phi pol codes (n+4)) msB (msR P vs RV u w) σ0=.ok (.next,msR P vs (.h σ0.length) (some (.h σ0.length)) w',σ0++[.list (rr s)])∧s≠[]∧s.length<runs.length∧s.flatten.Perm runs.flatten:=by
 obtain⟨s,e1,e2,e3⟩:=A7y (n:=n) (P:=P) (w:=w) hv hL hr h64 h4 hld
 obtain⟨c,hcn⟩:∃c,runs.length=c+1:=⟨runs.length-1,(Nat.sub_add_cancel (Nat.le_of_lt hc)).symm⟩
 have it:Az (.rng 0 ((runs.length:Int)-1) 2)=some (Ft (runs.length/2)):=by
  rw[show(runs.length:Int)=(c:Int)+1 from congrArg Int.ofNat hcn,Int.add_sub_cancel,Xn (Nat.le_of_lt_succ (Nat.lt_of_lt_of_eq hc hcn)) (Nat.le_of_succ_le (Nat.le_trans (Nat.le_of_eq hcn.symm) h4)),hcn]
 have len:∀{ρ:PEnv} {τ:Sto},getV ρ 0 4=some RV→ev pol (phi pol codes (n+4)) ρ false (.callB .len (.cons (.var 0 4) .nil)) (σ0++τ)=.ok (.v (.int runs.length),σ0++τ):=fun{ρ τ} h=>by
  rw[←Gz];exact Bf (As h (hld.norm τ)) (hld.pk τ) (Nat.le_trans (Nat.le_of_eq Gz) h4)
 have first:∀{R},exs pol (phi pol codes (n+4)) msL (msR P vs RV (some (.h σ0.length)) (Ch w (Ft (runs.length/2)))) (σ0++[.list (rr s)])=R→exs pol (phi pol codes (n+4)) msB (msR P vs RV u w) σ0=R:=fun k=>by
  refine A5 (v:=.h σ0.length) rfl (Am (Au (A7 rfl (A7 (D2 (len rfl) rfl rfl) (A3 rfl))) rfl) rfl it e1 k)
 have hmod:∀{z:Bool},decide ((runs.length:Int)%2=1)=z→ev pol (phi pol codes (n+4)) (msR P vs RV (some (.h σ0.length)) (Ch w (Ft (runs.length/2)))) false (.cmp .eq (.bin .mod (.callB .len (.cons (.var 0 4) .nil)) (.cst (.int (2)))) (.cst (.int (1)))) (σ0++[.list (rr s)])=.ok (.v (.bool z),σ0++[.list (rr s)]):=fun h=>
  D6 (D2 (len rfl) rfl rfl) rfl (congrArg some h)
 have last:∀{x:List PV},exs pol (phi pol codes (n+4)) (.cons (.asg 4 false (.var 0 5)) .nil) (msR P vs RV (some (.h σ0.length)) (Ch w (Ft (runs.length/2)))) (σ0++[.list x])=.ok (.next,msR P vs (.h σ0.length) (some (.h σ0.length)) (Ch w (Ft (runs.length/2))),σ0++[.list x]):=A5 (As rfl (Er Cv)) rfl
 have h2:2*(runs.length/2)+runs.length%2=runs.length:=Nat.div_add_mod _ _
 have sl:s.length<runs.length:=by rw[e2];exact Nat.div_lt_self (Nat.lt_trans Nat.one_pos hc) (by decide)
 have s0:0<runs.length/2:=Nat.div_pos hc Nat.two_pos
 by_cases ho:runs.length%2=1
 ·rw[ho]at h2
  have hk:c=2*(runs.length/2):=Nat.succ.inj (hcn.symm.trans h2.symm)
  have kl:c<runs.length:=by rw[hcn];exact Nat.lt_succ_self c
  refine⟨s++[runs[c]],Ch w (Ft (runs.length/2)),first (Ai (hmod (decide_eq_true (congrArg Int.ofNat ho))) (B8 (Af (B2 (As rfl (Er Cv)) Cv (Aj (As rfl (hld.norm _)) rfl (hld.pk _) (Yv h4 hcn kl)) (Nat.le_trans (Nat.le_of_eq Gz) (Nat.le_trans (Nat.le_of_lt sl) h4))) rfl) ?_)),List.append_ne_nil_of_right_ne_nil _ (List.cons_ne_nil _ _),?_,?_⟩
  ·rw[Es,Vl];exact last
  ·rw[List.length_append,e2]
   have h3:runs.length/2<c:=Nat.lt_of_lt_of_eq (Nat.lt_add_of_pos_left s0) ((Nat.two_mul _).symm.trans hk.symm)
   exact Nat.lt_of_lt_of_eq (Nat.succ_lt_succ h3) hcn.symm
  ·have e9:runs=runs.take c++[runs[c]]:=by
    have:=List.take_append_drop c runs
    rw[List.drop_eq_getElem_cons kl,List.drop_eq_nil_of_le (Nat.le_of_eq hcn)]at this
    exact this.symm
   have e8:=congrArg List.flatten e9
   rw[List.flatten_append]at e8
   rw[List.flatten_append,e8]
   rw[←hk]at e3
   exact e3.append_right _
 ·have h0:runs.length%2=0:=(Nat.mod_two_eq_zero_or_one _).resolve_right ho
  rw[h0,Nat.add_zero]at h2
  refine⟨s,Ch w (Ft (runs.length/2)),first (A6 (hmod (decide_eq_false fun q=>ho (Int.ofNat.inj q))) last),fun q=>by rw[q]at e2;exact absurd e2.symm (Nat.ne_of_gt s0),sl,?_⟩
  rw[h2,List.take_length]at e3
  exact e3
theorem A41(hv:SVs L vs)(hL:L≤4096){P:PV}:∀(k:Nat) (runs:List (List Nat)) (σ0:Sto) (RV:Val) (u w:Option Val),runs≠[]→runs.length≤k→k≤64→(∀x∈runs.flatten,x<L)→runs.flatten.length<64→Hld σ0 RV (rr runs)→
 ∃fin σ' RV' u' w',whB pol (phi pol codes (n+4)) msC msB k (msR P vs RV u w) σ0=.ok (.next,msR P vs RV' u' w',σ')∧Hld σ' RV' [.lst (pv fin)]∧fin.Perm runs.flatten:=by
 intro k
 induction k with
 |zero=>intro runs _ _ _ _ h1 h2;exact absurd (List.length_eq_zero_iff.mp (Nat.le_zero.mp h2)) h1
 |succ k ih=>
  intro runs σ0 RV u w h1 h2 h64 hr hf hld
  have h4:=Nat.le_trans h2 (Nat.le_trans h64 (show 64≤4096 by decide))
  have cond:∀{z:Bool},decide ((1:Int)<((rr runs).length:Int))=z→ev pol (phi pol codes (n+4)) (msR P vs RV u w) false msC σ0=.ok (.v (.bool z),σ0):=fun h=>
   Ag (Bf (As rfl hld.norm0) hld.pk0 (Nat.le_trans (Nat.le_of_eq Gz) h4)) rfl (congrArg some h)
  by_cases hc:1<runs.length
  ·obtain⟨s,w2,g1,g2,g3,g4⟩:=A40 (n:=n) (P:=P) (u:=u) (w:=w) hv hL hr hf h4 hc hld
   obtain⟨fin,σ',RV',u',w',f1,f2,f3⟩:=ih s (σ0++[.list (rr s)]) (.h σ0.length) (some (.h σ0.length)) w2 g2 (Nat.le_of_lt_succ (Nat.lt_of_lt_of_le g3 h2)) (Nat.le_of_succ_le h64) (fun x hx=>hr x (g4.mem_iff.mp hx)) (by rw[g4.length_eq];exact hf) Hld.h
   exact⟨fin,σ',RV',u',w',Il (cond (decide_eq_true (Int.ofNat_lt.mpr (Nat.lt_of_lt_of_eq hc Gz.symm)))) (Oj g1 f1),f2,f3.trans g4⟩
  ·obtain⟨r,rfl⟩:=List.length_eq_one_iff.mp (Nat.le_antisymm (Nat.not_lt.mp hc) (List.length_pos_iff.mpr h1))
   exact⟨r,σ0,RV,u,w,Il (cond rfl) rfl,hld,by rw[List.flatten_cons,List.flatten_nil,List.append_nil]⟩
theorem A19(ps:List Nat):(ps.map fun p=>[p]).flatten=ps:=by
 induction ps with
 |nil=>
  exact rfl
 |cons p ps ih=>
  rw[List.map_cons,List.flatten_cons,ih];rfl
theorem Ov(hv:SVs L vs)(hL:L≤4096){ps:List Nat}(hr:∀x∈ps,x<L)(hf:ps.length<64):
 ∃o:List Nat,o.Perm ps∧∀σ:Sto,A1 pol (phi pol codes (n+5)) 50 false [.v (.lst (pv ps)),.v (.lst vs),.v (fls vs),.v (.bool true)] σ=.ok (.v (.lst (pv o)),σ):=by
 have hl:=Nat.le_trans (Nat.le_of_lt hf) (show 64≤4096 by decide)
 cases hps:ps with
 |nil=>
  exact⟨[],.refl _,fun σ=>A4 (row:=[some (.v (.lst (pv []))),some (.v (.lst vs)),some (.v (fls vs)),some (.v (.bool true)),none,none,none]) (x:=.lst (pv [])) rfl rfl rfl rfl rfl⟩
 |cons p ps'=>
  rw[←hps]
  have e0:=A19 ps
  have e5:(pv ps).map (fun x=>PV.lst [x])=rr (ps.map fun p=>[p]):=List.map_map.trans (List.map_map (f:=fun p=>[p]) (g:=fun ps:List Nat=>PV.lst (pv ps))).symm
  obtain⟨fin,σ',RV',u',w',f1,f2,f3⟩:=A41 (n:=n) (P:=.lst (pv ps)) hv hL 64 (ps.map fun p=>[p]) [] (.v (.lst (rr (ps.map fun p=>[p])))) none none (by rw[hps];exact List.cons_ne_nil _ _) (Nat.le_trans (Nat.le_of_eq (List.length_map _)) (Nat.le_of_lt hf)) (Nat.le_refl _) (by rw[e0];exact hr) (by rw[e0];exact hf) Hld.v
  rw[e0]at f3
  rw[←e5]at f1
  have l1:(pv ps).length≤4096:=Nat.le_trans (Nat.le_of_eq C9) hl
  have l2:((pv ps).map fun x=>PV.lst [x]).length=ps.length:=(List.length_map _).trans C9
  have hne:¬((((pv ps).map fun x=>PV.lst [x]).length:Int)=0):=by rw[l2,hps];exact fun q=>nomatch Int.ofNat.inj q
  refine⟨fin,f3,fun σ=>A4 (row:=[some (.v (.lst (pv ps))),some (.v (.lst vs)),some (.v (fls vs)),some (.v (.bool true)),none,none,none]) (x:=.lst (pv fin)) rfl rfl rfl rfl ?_⟩
  exact Ab (A5 (Aq (A0 rfl) rfl rfl l1 (Ax (fun x=>.lst [x]) fun x J=>rfl)) (A6 (D6 (Bf (A0 rfl) rfl (Nat.le_trans (Nat.le_of_eq l2) hl)) rfl (congrArg some (decide_eq_false hne))) (Qs f1 (Aa (Aj (As rfl f2.norm0) rfl f2.pk0 rfl))))) rfl
end
end Mine.Internal
namespace Mine.Internal
open PySem
section
variable {pol0:Pol} {Φ:Phi} {ρ:PEnv} {σ σ':Sto} {m:Bool} {n:Nat} {k i a:PV} {xs ys cols names rl:List PV} {kd:Cs} {L:Nat} {vs:List PV}
theorem Th(hv:SVs L vs):A1 pol (phi pol codes (n+1)) 51 false [.v (.bool false),.v (.int vs.length)] σ=.ok (.v (fls vs),σ):=by
 rcases hv with⟨c,rfl,_⟩|⟨c,d,rfl,_,_⟩<;>
 exact A4 (row:=[some (.v (.bool false)),some (.v (.int _))]) (x:=fls _) rfl rfl rfl rfl rfl
theorem Gx{c:PV}(h:SCol L c)(hL:L≤4096):A1 pol (phi pol codes (n+1)) 7 false [.v c] σ=.ok (.v (.int L),σ):=by
 obtain⟨kd,xs,rfl,hk,hl,_⟩:=h
 rw[Za hk (Nat.le_trans (Nat.le_of_eq hl) hL),hl]
theorem Xc{c:PV}(h:SCol L c):A1 pol (phi pol codes (n+1)) 46 false [.v c] σ=.ok (.v .none,σ):=by
 obtain⟨kd,xs,rfl,hk,hl,_⟩:=h
 exact Iv hk
theorem SVs.head(hv:SVs L vs):∃c r,vs=c::r∧SCol L c:=by
 rcases hv with⟨c,rfl,h⟩|⟨c,d,rfl,h,_⟩<;>exact⟨_,_,rfl,h⟩
theorem SVs.le(hv:SVs L vs):vs.length≤4096:=by
 rcases hv with⟨c,rfl,_⟩|⟨c,d,rfl,_⟩
 ·exact(show 1≤4096 by decide)
 ·exact(show 2≤4096 by decide)
noncomputable abbrev kpW(vs:List PV)(a z w:Option Val):List (Option Val):=[some (.v (.lst vs)),some (.v (.bool true)),a,z,w,none]
noncomputable abbrev kpB:CSs:=(.cons (.asg 4 false (.cst (.bool true))) (.cons (.ifS (.cmp .is (.var 0 1) (.cst .none)) (.cons (.forS 5 (.var 0 0) (.cons (.ifS (.callF 44 (.cons (.attr (.var 0 5) A6z) (.cons (.sub (.attr (.var 0 5) Kf) (.var 0 3)) .nil))) (.cons (.asg 4 false (.cst (.bool false))) .nil) .nil) .nil)) .nil) .nil) (.cons (.ifS (.var 0 4) (.cons (.expr (.meth .append (.var 0 2) (.cons (.var 0 3) .nil))) .nil) .nil) .nil)))
theorem Mu(hv:SVs L vs)(hL:L≤4096):A1 pol (phi pol codes (n+2)) 52 false [.v (.lst vs),.v (.bool true)] σ=.ok (.v (.lst (rngI L)),σ):=by
 obtain⟨s,L1,I1⟩:=Dl (Φ:=phi pol codes (n+1)) (i:=3) (b:=kpB) (xs:=rngI L) (fun z (s:List PV×Option Val)=>[kpW vs (some (.h 0)) z s.2]) (fun s=>[.list s.1]) (fun pre s=>s.1=pre)
  (fun pre z s x post e hi=>⟨(s.1++[x],some (.v (.bool true))),A5 (v:=.v (.bool true)) rfl (A6 (Ag (A0 rfl) rfl rfl) (Ai (A0 rfl) (B8 (Af (B2 (As rfl rfl) rfl (A0 rfl) (by rw[hi];exact Ki e hL)) rfl) rfl))),by rw[hi]⟩)
  (z:=none) (s:=([],none)) rfl
 rw[I1]at L1
 have l0:=hv.le
 obtain⟨c,r,rfl,hc⟩:=hv.head
 exact A4 (row:=kpW (c::r) none none none) (x:=.lst (rngI L)) rfl rfl rfl rfl (Ab (A5 (v:=.h 0) rfl (Am (Au (A3 (A2 (A3 (Aj (A0 rfl) rfl rfl (Kr l0 (Nat.succ_pos _)))) (Gx hc hL))) rfl) rfl (B5 hL) L1 (Aa (As rfl rfl)))) rfl)
theorem A3k:rngI L=pv (List.range L):=rfl
noncomputable abbrev obW(vs:List PV)(a b:Option Val):List (Option Val):=[some (.v (.lst vs)),some (.v (.bool false)),some (.v (.bool true)),a,b]
noncomputable abbrev obB:CSs:=(.cons (.expr (.callF 46 (.cons (.var 0 3) .nil))) (.cons (.ifS (.cmp .ne (.callF 7 (.cons (.var 0 3) .nil)) (.callF 7 (.cons (.sub (.var 0 0) (.cst (.int (0)))) .nil))) (.cons (.raiseS (.cst (.str [97,114,103,117,109,101,110,116,32,108,101,110,103,116,104,115,32,100,105,102,102,101,114]))) .nil) .nil) .nil))
theorem Tc(hv:SVs L vs)(hL:L<64):∃o:List Nat,o.Perm (List.range L)∧∀σ:Sto,A1 pol (phi pol codes (n+6)) 53 false [.v (.lst vs)] σ=.ok (.v (.lst (pv o)),σ):=by
 have h4:=Nat.le_trans (Nat.le_of_lt hL) (show 64≤4096 by decide)
 obtain⟨o,ho,hc⟩:=Ov (n:=n) hv h4 (ps:=List.range L) (fun x hx=>List.mem_range.mp hx) (by rw[List.length_range];exact hL)
 refine⟨o,ho,fun σ=>?_⟩
 have hk:=Mu (n:=n+3) (σ:=[]) hv h4
 have he:=Th (n:=n+4) (σ:=[]) hv
 rw[A3k]at hk
 have l0:=hv.le
 have turn:∀{c:PV} {z:Option Val},SCol L c→(∃d r,vs=d::r∧SCol L d)→exs pol (phi pol codes (n+5)) obB (setV [obW vs z none] 3 (.v c)) []=.ok (.next,[obW vs (some (.v c)) none],[]):=fun hq ⟨d,r,hd,h⟩=>by
  subst hd
  exact Af (A2 (A3 (A0 rfl)) (Xc hq)) (A6 (D5 (z:=true) (A2 (A3 (A0 rfl)) (Gx hq h4)) (A2 (A3 (Aj (A0 rfl) rfl rfl (Kr l0 (Nat.succ_pos _)))) (Gx h h4)) (congrArg some (decide_eq_true rfl))) rfl)
 have L1:∃z,forB pol (phi pol codes (n+5)) 3 obB vs [obW vs none none] []=.ok (.next,[obW vs z none],[]):=by
  have hh:=hv.head
  rcases hv with⟨c,e,h⟩|⟨c,d,e,h,h2⟩
  ·rw[show forB pol (phi pol codes (n+5)) 3 obB vs [obW vs none none] []=forB pol (phi pol codes (n+5)) 3 obB [c] [obW vs none none] [] by rw[←e]]
   exact⟨_,Bk (turn h hh) rfl⟩
  ·rw[show forB pol (phi pol codes (n+5)) 3 obB vs [obW vs none none] []=forB pol (phi pol codes (n+5)) 3 obB [c,d] [obW vs none none] [] by rw[←e]]
   exact⟨_,Bk (turn h hh) (Bk (turn h2 hh) rfl)⟩
 obtain⟨z,L1⟩:=L1
 have ne:eqP (.int vs.length) (.int 0)=some false:=congrArg some (decide_eq_false fun q=>by
  obtain⟨c,r,e,_⟩:=hv.head
  rw[e]at q
  exact nomatch Int.ofNat.inj q)
 exact A4 (row:=obW vs none none) (x:=.lst (pv o)) rfl rfl rfl rfl (Ab (A6 (D6 (Bf (A0 rfl) rfl l0) rfl ne) (Am (A0 rfl) rfl rfl L1 (A5 (A2 (A7 (A0 rfl) (A3 (Bf (A0 rfl) rfl l0))) he)
  (Aa (A2 (A7 (A2 (A7 (A0 rfl) (A3 (A0 rfl))) hk) (A7 (A0 rfl) (A7 (A0 rfl) (A3 (Fe (Ag (A0 rfl) rfl rfl) (A0 rfl)))))) (hc _)))))) rfl)
theorem Mw(h:xs.length≤4096):A1 pol (phi pol codes (n+2)) 6 false [.h 0] [.list xs]=.ok (.v (ccol xs),[.froz (.lst xs)]):=by
 rw[Ec (ps:=[.lst xs]) (σ':=[.froz (.lst xs)]) rfl rfl]
 exact Fb h
structure KCols(L:Nat)(xs ys:List PV):Prop where
 k:∀x∈xs,KI x
 l:∀x∈ys,LI x
 lx:xs.length=L
 ly:ys.length=L
theorem KCols.s1(h:KCols L xs ys):SCol L (kcol A9 xs):=⟨_,_,rfl,K2i,h.lx,fun x hx=>by
 cases h.k x hx<;>first|exact .inl rfl|exact .inr (.inl ⟨rfl,_,rfl⟩)⟩
theorem KCols.s2(h:KCols L xs ys):SCol L (kcol A8 ys):=⟨_,_,rfl,K2c,h.ly,fun x hx=>by
 cases h.l x hx<;>exact .inr (.inr ⟨rfl,_,rfl⟩)⟩
theorem L9:A1 pol (phi pol codes (n+3)) 64 false [.v (.lst [kcol A9 xs,kcol A8 ys]),.v (.bool true)] σ=.ok (.v (.lst [kcol A9 xs,kcol A8 ys]),σ):=
 A4 (row:=[some (.v (.lst [kcol A9 xs,kcol A8 ys])),some (.v (.bool true)),none,none,none,none]) (x:=.lst [kcol A9 xs,kcol A8 ys]) rfl rfl rfl rfl (by kernel_rfl)
noncomputable def na(x:PV):Cs:=(pStr x some).getD [78,65]
noncomputable def jt(a b:PV):Cs:=na (lab a)++(13::na (lab b))
inductive NS:PV→Prop
 |n:NS .none
 |s (c:Cs):NS (.str c)
theorem KI.ns{x:PV}(h:KI x):NS (lab x):=by cases h<;>constructor
theorem LI.ns{x:PV}(h:LI x):NS (lab x):=by cases h<;>constructor
theorem KI.nl{x:PV}(h:KI x):(na (lab x)).length≤2:=by
 cases h with
 |none=>exact Nat.le_refl 2
 |z0=>exact Nat.le_trans (Nat.le_of_eq (congrArg List.length A61)) (show 1≤2 by decide)
 |z1=>exact Nat.le_trans (Nat.le_of_eq (congrArg List.length A60)) (show 1≤2 by decide)
 |z2=>exact Nat.le_trans (Nat.le_of_eq (congrArg List.length W5)) (show 1≤2 by decide)
theorem LI.nl{x:PV}(h:LI x):(na (lab x)).length≤2:=by cases h<;>exact(show 1≤2 by decide)
theorem A5w{x:PV}(h:NS x)(hv:getV ρ 0 0=some (.v x)):ev pol Φ ρ false (.ite (.cmp .is (.var 0 0) (.cst .none)) (.cst (.str [78,65])) (.var 0 0)) σ=.ok (.v (.str (na x)),σ):=by
 cases h
 ·exact El (Ag (A0 hv) rfl rfl) rfl
 ·exact Co (Ag (A0 hv) rfl rfl) (A0 hv)
noncomputable abbrev moW(xs ys:List PV)(a b c d:Option Val):List (Option Val):=[some (.v (.lst [kcol A9 xs,kcol A8 ys])),some (.v (.bool false)),a,b,c,d]
noncomputable abbrev moB:CSs:=(.cons (.asg 5 false (.comp (.sub (.var 0 0) (.var 1 4)) (.var 0 3) .nil 0)) (.cons (.expr (.meth .append (.var 0 2) (.cons (.meth .join (.cst (.str [13])) (.cons (.comp (.ite (.cmp .is (.var 0 0) (.cst .none)) (.cst (.str [78,65])) (.var 0 0)) (.var 0 5) .nil 0) .nil)) .nil))) .nil))
theorem La(h:KCols L xs ys)(hL:L≤4096):A1 pol (phi pol codes (n+3)) 64 false [.v (.lst [kcol A9 xs,kcol A8 ys]),.v (.bool false)] σ=
 .ok (.v (.lst [kcol A8 ((List.range L).map fun i=>.str (jt (xs.getD i .none) (ys.getD i .none)))]),σ):=by
 have l1:=Nat.le_trans (Nat.le_of_eq h.lx) hL
 have l2:=Nat.le_trans (Nat.le_of_eq h.ly) hL
 have it:Az (.rng 0 xs.length 1)=some (rngI L):=by rw[h.lx];exact B5 hL
 have gD:∀{zs:List PV} {i:Nat} (hi:i<zs.length),zs[i]=zs.getD i .none:=fun hi=>by rw[List.getD_eq_getElem?_getD,List.getElem?_eq_getElem hi];rfl
 have t1:=Dx (n:=n) (kd:=A9) (xs:=xs) (σ:=[.list []]) (fun x hx'=>.inl ⟨rfl,h.k x hx'⟩) K2i l1
 have t2:=Dx (n:=n) (kd:=A8) (xs:=ys) (σ:=[.list []]) (fun x hx'=>.inr ⟨rfl,h.l x hx'⟩) K2c l2
 obtain⟨s,L1,I1⟩:=Dl (Φ:=phi pol codes (n+2)) (i:=4) (b:=moB) (xs:=rngI L)
  (fun z (s:List PV×Option Val)=>[moW xs ys (some (.h 0)) (some (.v (.lst [.lst (xs.map lab),.lst (ys.map lab)]))) z s.2]) (fun s=>[.list s.1])
  (fun pre s=>s.1=pre.map fun x=>(pInt x fun i=>some (PV.str (jt (xs.getD i.toNat .none) (ys.getD i.toNat .none)))).getD .none)
  (fun pre z s x post e hi=>by
   obtain⟨i,hil,rfl⟩:=C5 (L:=L) (x:=x) (by rw[e];exact List.mem_append_right _ List.mem_cons_self)
   have hl:s.1.length≤4096:=by rw[hi,List.length_map];exact Ki e hL
   have ix:=Nat.lt_of_lt_of_eq hil h.lx.symm
   have iy:=Nat.lt_of_lt_of_eq hil h.ly.symm
   have sx:=F8 (f:=lab) l1 ix
   have sy:=F8 (f:=lab) l2 iy
   have kx:=h.k _ (List.getElem_mem ix)
   have ky:=h.l _ (List.getElem_mem iy)
   rw[gD]at sx sy kx ky
   refine⟨(s.1++[.str (jt (xs.getD i .none) (ys.getD i .none))],some (.v (.lst [lab (xs.getD i .none),lab (ys.getD i .none)]))),?_,by rw[hi,List.map_append];rfl⟩
   generalize xs.getD i .none=u at sx kx⊢
   generalize ys.getD i .none=v at sy ky⊢
   have hb:(na (lab u)++[13]++na (lab v)).length+1≤4096:=by
    rw[List.length_append,List.length_append]
    exact Nat.le_trans (Nat.succ_le_succ (Nat.add_le_add (Nat.succ_le_succ kx.nl) ky.nl)) (by decide)
   rw[show jt u v=na (lab u)++[13]++na (lab v)from List.append_cons _ _ _]
   exact A5 (Aq (A0 rfl) rfl rfl (show 2≤4096 by decide) (B4 (Aj (A0 rfl) (A0 rfl) rfl sx) (B4 (Aj (A0 rfl) (A0 rfl) rfl sy) rfl))) (Af (B2 (As rfl rfl) rfl (G3 (v:=.v (.str [13])) rfl rfl rfl (A3 (Aq (m:=false) (A0 rfl) rfl rfl (show 2≤4096 by decide) (B4 (A5w kx.ns rfl) (B4 (A5w ky.ns rfl) rfl)))) rfl (A0r hb)) hl) rfl))
  (z:=none) (s:=([],none)) rfl
 rw[show s.1=(List.range L).map fun i=>.str (jt (xs.getD i .none) (ys.getD i .none))from I1.trans List.map_map]at L1
 exact A4 (row:=moW xs ys none none none none) (x:=.lst [kcol A8 ((List.range L).map fun i=>.str (jt (xs.getD i .none) (ys.getD i .none)))]) rfl rfl rfl rfl (Ab (A6 rfl (A6 rfl (A5 (v:=.h 0) rfl (A5 (Aq (m:=false) (A0 rfl) rfl rfl (show 2≤4096 by decide) (B4 (A2 (A3 (A0 rfl)) t1) (B4 (A2 (A3 (A0 rfl)) t2) rfl)))
  (Am (Au (A3 (Bf (v:=.v (.lst xs)) rfl rfl l1)) rfl) rfl it L1 (Aa (Ff (A3 (A2 (A3 (As rfl rfl)) (Mw (Nat.le_trans (Nat.le_of_eq ((List.length_map _).trans List.length_range)) hL)))) rfl))))))) rfl)
end
end Mine.Internal
namespace Mine.Internal
open PySem
section
variable {pol0:Pol} {Φ:Phi} {ρ:PEnv} {σ σ':Sto} {m:Bool} {n:Nat} {k i a:PV} {xs ys cols names rl:List PV} {kd:Cs} {L:Nat} {vs:List PV}
noncomputable abbrev S1(s:Cs):PV:=.str s
noncomputable def rw1(L:Nat):List PV:=(List.range L).map fun(i:Nat)=>PV.int ((i+1:Nat):Int)
@[simp] theorem Dh:(rw1 L).length=L:=by simp[rw1]
theorem Zh:rngL 1 (L+1) 1=rw1 L:=by
 unfold rngL rngN rw1
 have e:(if(1:Int)<(L:Int)+1 then(((L:Int)+1-1-1)/1+1).toNat else 0)=L:=by
  rw[Int.ediv_one,Int.add_sub_cancel,Int.sub_add_cancel]
  induction L using Nat.casesOn with
  |zero=>rfl
  |succ n=>exact if_pos (Int.ofNat_lt.mpr (Nat.succ_lt_succ (Nat.succ_pos n)))
 rw[e]
 refine List.map_congr_left fun i J=>congrArg PV.int ?_
 rw[Int.mul_one,Int.add_comm];rfl
theorem A5k{Φ:Phi}{ρ:PEnv}{c:CE}(g:ev pol Φ ρ false c σ=.ok (.v (.int L),σ))(h4:L+1≤4096):
 ev pol Φ ρ m (.callB .list (.cons (.callB .range (.cons (.cst (.int 1)) (.cons (.bin .add c (.cst (.int 1))) .nil))) .nil)) σ=.ok (mk m (rw1 L) σ):=by
 refine Au (A3 (Au (A7 rfl (A3 (D2 g rfl rfl))) rfl)) ?_
 show(if 0<(1:Int)&&bnd 1&&bnd ((L:Int)+1)&&bnd 1 then some (mk m (rngL 1 (L+1) 1) σ)else none)=_
 rw[show bnd ((L:Int)+1)=true from Qi h4,Zh];rfl
theorem Hi(h:L≤4000):A1 pol (phi pol codes (n+3)) 38 false [.v (.int L)] σ=.ok (.v (icol (rw1 L)),σ):=by
 refine A4 (row:=[some (.v (.int L))]) (x:=icol (rw1 L)) rfl rfl rfl rfl ?_
 have h4:L+1≤4096:=Nat.le_trans (Nat.succ_le_succ h) (by decide)
 exact Ab (Aa (A2 (A3 (A5k (A0 rfl) h4)) (X7 (Nat.le_trans (Nat.le_of_eq Dh) (Nat.le_of_succ_le h4))))) rfl
noncomputable abbrev nm3(u:Cs):List PV:=[S1 Iq,S1 Qo,S1 u]
noncomputable abbrev byKL:PV:=.lst [S1 Iq,S1 Qo]
theorem Xb:A1 pol (phi pol codes (n+5)) 57 false [.v (frm cols (nm3 Ce) rl),.v byKL] σ=.ok (.v (.lst [.int 0,.int 1]),σ):=
 A4 (row:=[some (.v (frm cols (nm3 Ce) rl)),some (.v byKL),none,none,none]) (x:=.lst [.int 0,.int 1]) rfl rfl rfl rfl (by kernel_rfl)
theorem Xa:A1 pol (phi pol codes (n+5)) 57 false [.v (frm cols (nm3 Ee) rl),.v byKL] σ=.ok (.v (.lst [.int 0,.int 1]),σ):=
 A4 (row:=[some (.v (frm cols (nm3 Ee) rl)),some (.v byKL),none,none,none]) (x:=.lst [.int 0,.int 1]) rfl rfl rfl rfl (by kernel_rfl)
theorem Lj{u:Cs}(h:u=Ce∨u=Ee):A1 pol (phi pol codes (n+5)) 57 false [.v (frm cols (nm3 u) rl),.v byKL] σ=.ok (.v (.lst [.int 0,.int 1]),σ):=by
 rcases h with rfl|rfl
 ·exact Xb
 ·exact Xa
theorem Ti:A1 pol (phi pol codes (n+5)) 57 false [.v (frm cols (nm3 Ce) rl),.v (.lst [S1 Iq])] σ=.ok (.v (.lst [.int 0]),σ):=
 A4 (row:=[some (.v (frm cols (nm3 Ce) rl)),some (.v (.lst [S1 Iq])),none,none,none]) (x:=.lst [.int 0]) rfl rfl rfl rfl (by kernel_rfl)
noncomputable def mBy:Cs:=[39,98,121,39,32,109,117,115,116,32,115,112,101,99,105,102,121,32,97,32,117,110,105,113,117,101,108,121,32,118,97,108,105,100,32,99,111,108,117,109,110]
noncomputable abbrev nmz:List PV:=[S1 T8,S1 T7,S1 Ee]
theorem X9:A1 pol (phi pol codes (n+5)) 57 false [.v (frm cols nmz rl),.v (.lst [S1 Iq])] σ=.exc (.str mBy):=
 Cc (row:=[some (.v (frm cols nmz rl)),some (.v (.lst [S1 Iq])),none,none,none]) (r:=.exc (.str mBy)) rfl rfl rfl rfl (by kernel_rfl) (nomatch ·)
theorem Ky{s:Cs}:A1 pol (phi pol codes (n+1)) 62 false [.v (.lst (nm3 Ce)),.v (.lst (nm3 Ee)),.v byKL,.v (.str s)] σ=.ok (.v (.lst [S1 Ce]),σ):=
 A4 (row:=[some (.v (.lst (nm3 Ce))),some (.v (.lst (nm3 Ee))),some (.v byKL),some (.v (.str s)),none,none]) (x:=.lst [S1 Ce]) rfl rfl rfl rfl (by kernel_rfl)
theorem Kx{s:Cs}:A1 pol (phi pol codes (n+1)) 62 false [.v (.lst (nm3 Ee)),.v (.lst (nm3 Ce)),.v byKL,.v (.str s)] σ=.ok (.v (.lst [S1 Ee]),σ):=
 A4 (row:=[some (.v (.lst (nm3 Ee))),some (.v (.lst (nm3 Ce))),some (.v byKL),some (.v (.str s)),none,none]) (x:=.lst [S1 Ee]) rfl rfl rfl rfl (by kernel_rfl)
theorem R8:A1 pol (phi pol codes (n+1)) 62 false [.v (.lst (nm3 Ce)),.v (.lst (nm3 Ce)),.v byKL,.v (S1 Oq)] σ=.ok (.v (.lst [S1 A5d]),σ):=
 A4 (row:=[some (.v (.lst (nm3 Ce))),some (.v (.lst (nm3 Ce))),some (.v byKL),some (.v (S1 Oq)),none,none]) (x:=.lst [S1 A5d]) rfl rfl rfl rfl (by kernel_rfl)
theorem R7:A1 pol (phi pol codes (n+1)) 62 false [.v (.lst (nm3 Ce)),.v (.lst (nm3 Ce)),.v byKL,.v (S1 t_P)] σ=.ok (.v (.lst [S1 A9c]),σ):=
 A4 (row:=[some (.v (.lst (nm3 Ce))),some (.v (.lst (nm3 Ce))),some (.v byKL),some (.v (S1 t_P)),none,none]) (x:=.lst [S1 A9c]) rfl rfl rfl rfl (by kernel_rfl)
theorem Le:A1 pol (phi pol codes (n+5)) 66 false [.v (frm cols (nm3 Ce) rl),.v (frm xs (nm3 Ee) ys)] σ=.ok (.v byKL,σ):=
 A4 (row:=[some (.v (frm cols (nm3 Ce) rl)),some (.v (frm xs (nm3 Ee) ys)),none]) (x:=byKL) rfl rfl rfl rfl (by kernel_rfl)
theorem Fa(h:xs.length≤4096):A1 pol (phi pol codes (n+1)) 68 false [.v (ccol xs)] σ=.ok (.v (.lst xs),σ):=
 A4 (row:=[some (.v (ccol xs))]) (x:=.lst xs) rfl rfl rfl rfl (Ab (A6 rfl (A6 rfl (Aa (G4 (v:=.v (.lst xs)) rfl rfl h)))) rfl)
noncomputable abbrev fml:PV:=.lst [S1 t_x,S1 t_y,S1 Ms,S1 Gu,S1 Gs,S1 Vf,S1 Br,S1 Bq,S1 On,S1 Eg]
noncomputable abbrev ar(nm v:PV):PV:=.tup [nm,v]
theorem A6w{x y f g:PV}:A1 pol (phi pol codes (n+5)) 26 false [.v (.lst [ar .none x,ar .none y,ar (S1 Br) f,ar (S1 Bq) g]),.v fml] σ=.ok (.v (.lst [x,y,.none,.none,.none,.none,f,g,.none,.none]),σ):=
 A4 (row:=[some (.v (.lst [ar .none x,ar .none y,ar (S1 Br) f,ar (S1 Bq) g])),some (.v fml),some (.v .none),none,none,none,none]) (x:=.lst [x,y,.none,.none,.none,.none,f,g,.none,.none]) rfl rfl rfl rfl (by kernel_rfl)
theorem A6v{x y b f g:PV}:A1 pol (phi pol codes (n+5)) 26 false [.v (.lst [ar (S1 t_y) y,ar (S1 t_x) x,ar (S1 Ms) b,ar (S1 Br) f,ar (S1 Bq) g]),.v fml] σ=.ok (.v (.lst [x,y,b,.none,.none,.none,f,g,.none,.none]),σ):=
 A4 (row:=[some (.v (.lst [ar (S1 t_y) y,ar (S1 t_x) x,ar (S1 Ms) b,ar (S1 Br) f,ar (S1 Bq) g])),some (.v fml),some (.v .none),none,none,none,none]) (x:=.lst [x,y,b,.none,.none,.none,f,g,.none,.none]) rfl rfl rfl rfl (by kernel_rfl)
theorem A6u{x y b c f g:PV}:A1 pol (phi pol codes (n+5)) 26 false [.v (.lst [ar .none x,ar .none y,ar (S1 Gu) b,ar (S1 Gs) c,ar (S1 Br) f,ar (S1 Bq) g]),.v fml] σ=.ok (.v (.lst [x,y,.none,b,c,.none,f,g,.none,.none]),σ):=
 A4 (row:=[some (.v (.lst [ar .none x,ar .none y,ar (S1 Gu) b,ar (S1 Gs) c,ar (S1 Br) f,ar (S1 Bq) g])),some (.v fml),some (.v .none),none,none,none,none]) (x:=.lst [x,y,.none,b,c,.none,f,g,.none,.none]) rfl rfl rfl rfl (by kernel_rfl)
theorem A6t{x y h f g:PV}:A1 pol (phi pol codes (n+5)) 26 false [.v (.lst [ar .none x,ar .none y,ar (S1 On) h,ar (S1 Br) f,ar (S1 Bq) g]),.v fml] σ=.ok (.v (.lst [x,y,.none,.none,.none,.none,f,g,h,.none]),σ):=
 A4 (row:=[some (.v (.lst [ar .none x,ar .none y,ar (S1 On) h,ar (S1 Br) f,ar (S1 Bq) g])),some (.v fml),some (.v .none),none,none,none,none]) (x:=.lst [x,y,.none,.none,.none,.none,f,g,h,.none]) rfl rfl rfl rfl (by kernel_rfl)
theorem A6s{x y h:PV}:A1 pol (phi pol codes (n+5)) 26 false [.v (.lst [ar .none x,ar .none y,ar (S1 Vf) h]),.v fml] σ=.ok (.v (.lst [x,y,.none,.none,.none,h,.none,.none,.none,.none]),σ):=
 A4 (row:=[some (.v (.lst [ar .none x,ar .none y,ar (S1 Vf) h])),some (.v fml),some (.v .none),none,none,none,none]) (x:=.lst [x,y,.none,.none,.none,h,.none,.none,.none,.none]) rfl rfl rfl rfl (by kernel_rfl)
theorem A6r{x y b h:PV}:A1 pol (phi pol codes (n+5)) 26 false [.v (.lst [ar .none x,ar .none y,ar (S1 Ms) b,ar (S1 Eg) h]),.v fml] σ=.ok (.v (.lst [x,y,b,.none,.none,.none,.none,.none,.none,h]),σ):=
 A4 (row:=[some (.v (.lst [ar .none x,ar .none y,ar (S1 Ms) b,ar (S1 Eg) h])),some (.v fml),some (.v .none),none,none,none,none]) (x:=.lst [x,y,b,.none,.none,.none,.none,.none,.none,h]) rfl rfl rfl rfl (by kernel_rfl)
theorem A6q{x y b:PV}:A1 pol (phi pol codes (n+5)) 26 false [.v (.lst [ar .none x,ar .none y,ar (S1 Ms) b]),.v fml] σ=.ok (.v (.lst [x,y,b,.none,.none,.none,.none,.none,.none,.none]),σ):=
 A4 (row:=[some (.v (.lst [ar .none x,ar .none y,ar (S1 Ms) b])),some (.v fml),some (.v .none),none,none,none,none]) (x:=.lst [x,y,b,.none,.none,.none,.none,.none,.none,.none]) rfl rfl rfl rfl (by kernel_rfl)
theorem A6p{x y b c:PV}:A1 pol (phi pol codes (n+5)) 26 false [.v (.lst [ar .none x,ar .none y,ar (S1 Gu) b,ar (S1 Gs) c]),.v fml] σ=.ok (.v (.lst [x,y,.none,b,c,.none,.none,.none,.none,.none]),σ):=
 A4 (row:=[some (.v (.lst [ar .none x,ar .none y,ar (S1 Gu) b,ar (S1 Gs) c])),some (.v fml),some (.v .none),none,none,none,none]) (x:=.lst [x,y,.none,b,c,.none,.none,.none,.none,.none]) rfl rfl rfl rfl (by kernel_rfl)
theorem A6o{x y:PV}:A1 pol (phi pol codes (n+5)) 26 false [.v (.lst [ar .none x,ar .none y]),.v fml] σ=.ok (.v (.lst [x,y,.none,.none,.none,.none,.none,.none,.none,.none]),σ):=
 A4 (row:=[some (.v (.lst [ar .none x,ar .none y])),some (.v fml),some (.v .none),none,none,none,none]) (x:=.lst [x,y,.none,.none,.none,.none,.none,.none,.none,.none]) rfl rfl rfl rfl (by kernel_rfl)
end
end Mine.Internal
namespace Mine.Internal
open PySem
section
variable {pol0:Pol} {Φ:Phi} {ρ:PEnv} {σ σ':Sto} {m:Bool} {n:Nat} {k i a:PV} {xs ys cols names rl:List PV} {kd:Cs} {L:Nat} {vs:List PV}
structure Cl3(L:Nat)(x1 x2 x3:List PV):Prop extends KCols L x1 x2 where
 l3:x3.length=L
 i3:∀x∈x3,∃j:Int,x=.int j
noncomputable abbrev fr3(x1 x2 x3:List PV)(names:List PV)(L:Nat):PV:=frm [icol x1,ccol x2,icol x3] names (rw1 L)
theorem Z9{v w:PV}(h:cmpP .is v .none=some false):A1 pol (phi pol codes (n+1)) 25 false [.v v,.v w] σ=.ok (.v v,σ):=
 A4 (row:=[some (.v v),some (.v w)]) (x:=v) rfl rfl rfl rfl (Ab (A6 (Ag (A0 rfl) rfl h) (Aa (A0 rfl))) rfl)
noncomputable abbrev ifW(f:PV)(a b:Option Val):List (Option Val):=[some (.v f),a,b]
noncomputable abbrev ifB:CSs:=(.cons (.ifS (.boolE false (.cons (.notE (.callF 8 (.cons (.var 0 2) .nil))) (.cons (.cmp .ne (.callB .len (.cons (.attr (.var 0 2) [105,116,101,109,115]) .nil)) (.callF 39 (.cons (.var 0 0) .nil))) .nil))) (.cons (.ret false (.cst (.bool false))) .nil) .nil) .nil)
theorem Te{x1 x2 x3:List PV}{a b c:PV}(h:Cl3 L x1 x2 x3)(hL:L≤4000):A1 pol (phi pol codes (n+4)) 35 false [.v (fr3 x1 x2 x3 [a,b,c] L)] σ=.ok (.v (.bool true),σ):=by
 have h4:=Nat.le_trans hL (show 4000≤4096 by decide)
 have fr:=fun σ=>Hm (n:=n+2) (σ:=σ) (cols:=[icol x1,ccol x2,icol x3]) (names:=[a,b,c]) (rl:=rw1 L) (Nat.le_trans (Nat.le_of_eq Dh) h4)
 simp only[Dh]at fr
 have turn:∀{k:PV} {xs:List PV} {z:Option Val},xs.length=L→exs pol (phi pol codes (n+3)) ifB (setV [ifW (fr3 x1 x2 x3 [a,b,c] L) (some (.v (.lst [a,b,c]))) z] 2 (.v (.vec k (.lst xs) .none))) []=.ok (.next,[ifW (fr3 x1 x2 x3 [a,b,c] L) (some (.v (.lst [a,b,c]))) (some (.v (.vec k (.lst xs) .none)))],[]):=fun h=>
  A6 (Fe (Zk (A2 (A3 (A0 rfl)) (Ra _))) (D5 (z:=true) (Bf (Al (A0 rfl) rfl rfl) rfl (Nat.le_trans (Nat.le_of_eq h) h4)) (A2 (A3 (A0 rfl)) (fr _)) (congrArg some (decide_eq_true (congrArg Int.ofNat h))))) rfl
 exact A4 (row:=ifW (fr3 x1 x2 x3 [a,b,c] L) none none) (x:=.bool true) rfl rfl rfl rfl (Ab (A6 (A94 rfl (A94 (Ag (op:=.notIn) rfl (A2 (A3 (A0 rfl)) Rd) rfl) (A94 rfl rfl))) (A5 (A2 (A3 (A0 rfl)) (Jp (show 3≤4096 by decide)))
  (A6 (Di rfl (Fe rfl rfl)) (Am (Al (A0 rfl) rfl rfl) rfl rfl (Bk (turn h.lx) (Bk (turn h.ly) (Bk (turn h.l3) rfl))) (Aa rfl))))) rfl)
theorem Rc{x1 x2 x3:List PV}{a b c nm:PV}(h:Cl3 L x1 x2 x3)(hL:L≤4000):A1 pol (phi pol codes (n+5)) 67 false [.v (fr3 x1 x2 x3 [a,b,c] L),.v nm] σ=.ok (.v (fr3 x1 x2 x3 [a,b,c] L),σ):=by
 refine A4 (row:=[some (.v (fr3 x1 x2 x3 [a,b,c] L)),some (.v nm)]) (x:=fr3 x1 x2 x3 [a,b,c] L) rfl rfl rfl rfl ?_
 have e:=fun σ=>Z9 (n:=n+3) (σ:=σ) (v:=fr3 x1 x2 x3 [a,b,c] L) (w:=nm) rfl
 have f:=fun σ=>Te (n:=n) (σ:=σ) (a:=a) (b:=b) (c:=c) h hL
 exact Ab (A5 (A2 (A7 (A0 rfl) (A3 (A0 rfl))) (e _)) (A6 (Zk (A2 (A3 (A0 rfl)) (f _))) (Aa (A0 rfl)))) rfl
noncomputable def mDf:Cs:=[39,121,39,32,109,117,115,116,32,98,101,32,97,32,100,97,116,97,32,102,114,97,109,101]
theorem Lc:A1 pol (phi pol codes (n+5)) 67 false [.v (icol [.int 1]),.v (S1 t_y)] σ=.exc (.str mDf):=
 Cc (row:=[some (.v (icol [.int 1])),some (.v (S1 t_y))]) (r:=.exc (.str mDf)) rfl rfl rfl rfl (by kernel_rfl) (nomatch ·)
theorem X3{x1 x2 x3:List PV}(h:Cl3 L x1 x2 x3):A1 pol (phi pol codes (n+5)) 69 false [.v (fr3 x1 x2 x3 nmz L),.v (.lst [S1 T8,S1 T7]),.v byKL] σ=.ok (.v (fr3 x1 x2 x3 (nm3 Ee) L),σ):=by
 refine A4 (row:=[some (.v (fr3 x1 x2 x3 nmz L)),some (.v (.lst [S1 T8,S1 T7])),some (.v byKL),none,none,none]) (x:=fr3 x1 x2 x3 (nm3 Ee) L) rfl rfl rfl rfl ?_
 kernel_rfl
end
end Mine.Internal
namespace Mine.Internal
open PySem
noncomputable abbrev mf5:CSs:=(.cons (.ifS (.boolE true (.cons (.cmp .gt (.callB .len (.cons (.var 0 2) .nil)) (.cst (.int (0)))) (.cons (.var 0 6) .nil))) (.cons (.asg 15 false (.callF 53 (.cons (.callF 64 (.cons (.var 0 13) (.cons (.boolE false (.cons (.var 0 3) (.cons (.var 0 4) .nil))) .nil))) .nil))) (.cons (.asg 9 false (.comp (.sub (.var 1 9) (.var 0 0)) (.var 0 15) .nil 0)) (.cons (.asg 13 true (.comp (.callF 43 (.cons (.var 0 0) (.cons (.var 1 15) .nil))) (.var 0 13) .nil 0)) .nil))) .nil) (.cons (.asg 16 false (.callF 40 (.cons (.var 0 0) .nil))) (.cons (.asg 17 false (.callF 40 (.cons (.var 0 1) .nil))) (.cons (.forS 10 (.callB .range (.cons (.callB .len (.cons (.var 0 16) .nil)) .nil)) (.cons (.ifS (.cmp .notIn (.var 0 10) (.var 0 7)) (.cons (.expr (.meth .append (.var 0 13) (.cons (.callF 43 (.cons (.sub (.attr (.var 0 0) [105,116,101,109,115]) (.var 0 10)) (.cons (.comp (.sub (.var 0 0) (.cst (.int (0)))) (.var 0 9) .nil 0) .nil))) .nil))) .nil) .nil) .nil)) (.cons (.forS 10 (.callB .range (.cons (.callB .len (.cons (.var 0 17) .nil)) .nil)) (.cons (.ifS (.cmp .notIn (.var 0 10) (.var 0 8)) (.cons (.expr (.meth .append (.var 0 13) (.cons (.callF 43 (.cons (.sub (.attr (.var 0 1) [105,116,101,109,115]) (.var 0 10)) (.cons (.comp (.sub (.var 0 0) (.cst (.int (1)))) (.var 0 9) .nil 0) .nil))) .nil))) .nil) .nil) .nil)) (.cons (.asg 18 false (.bin .add (.callB .list (.cons (.var 0 2) .nil)) (.callF 62 (.cons (.var 0 16) (.cons (.var 0 17) (.cons (.var 0 2) (.cons (.sub (.var 0 5) (.cst (.int (0)))) .nil))))))) (.cons (.asg 18 false (.bin .add (.var 0 18) (.callF 62 (.cons (.var 0 17) (.cons (.var 0 16) (.cons (.var 0 2) (.cons (.sub (.var 0 5) (.cst (.int (1)))) .nil))))))) (.cons (.ret false (.callF 37 (.cons (.var 0 13) (.cons (.var 0 18) (.cons (.callF 38 (.cons (.callB .len (.cons (.var 0 9) .nil)) .nil)) .nil))))) .nil))))))))
noncomputable abbrev mf6:CSs:=(.cons (.asg 16 false (.callF 40 (.cons (.var 0 0) .nil))) (.cons (.asg 17 false (.callF 40 (.cons (.var 0 1) .nil))) (.cons (.forS 10 (.callB .range (.cons (.callB .len (.cons (.var 0 16) .nil)) .nil)) (.cons (.ifS (.cmp .notIn (.var 0 10) (.var 0 7)) (.cons (.expr (.meth .append (.var 0 13) (.cons (.callF 43 (.cons (.sub (.attr (.var 0 0) [105,116,101,109,115]) (.var 0 10)) (.cons (.comp (.sub (.var 0 0) (.cst (.int (0)))) (.var 0 9) .nil 0) .nil))) .nil))) .nil) .nil) .nil)) (.cons (.forS 10 (.callB .range (.cons (.callB .len (.cons (.var 0 17) .nil)) .nil)) (.cons (.ifS (.cmp .notIn (.var 0 10) (.var 0 8)) (.cons (.expr (.meth .append (.var 0 13) (.cons (.callF 43 (.cons (.sub (.attr (.var 0 1) [105,116,101,109,115]) (.var 0 10)) (.cons (.comp (.sub (.var 0 0) (.cst (.int (1)))) (.var 0 9) .nil 0) .nil))) .nil))) .nil) .nil) .nil)) (.cons (.asg 18 false (.bin .add (.callB .list (.cons (.var 0 2) .nil)) (.callF 62 (.cons (.var 0 16) (.cons (.var 0 17) (.cons (.var 0 2) (.cons (.sub (.var 0 5) (.cst (.int (0)))) .nil))))))) (.cons (.asg 18 false (.bin .add (.var 0 18) (.callF 62 (.cons (.var 0 17) (.cons (.var 0 16) (.cons (.var 0 2) (.cons (.sub (.var 0 5) (.cst (.int (1)))) .nil))))))) (.cons (.ret false (.callF 37 (.cons (.var 0 13) (.cons (.var 0 18) (.cons (.callF 38 (.cons (.callB .len (.cons (.var 0 9) .nil)) .nil)) .nil))))) .nil)))))))
section
variable {pol0:Pol} {Φ:Phi} {ρ:PEnv} {σ σ':Sto} {m:Bool} {n:Nat} {k i a:PV} {xs ys cols names rl:List PV} {kd:Cs} {L n1 n2:Nat} {vs:List PV} {x1 x2 x3 y1 y2 y3:List PV}
noncomputable def Cm(L:Nat)(x1 x2:List PV):List Cs:=(List.range L).map (rkAt x1 x2)
theorem G1:(Cm L x1 x2).length=L:=by simp[Cm]
theorem Xf:(Cm L x1 x2).map PV.str=(List.range L).map fun i=>.str (rkAt x1 x2 i):=by simp[Cm]
noncomputable def kv(xs ys:List PV):PV→PV:=fun p=>Ao (xs++ys) (Dq xs.length p)
noncomputable def P0(n1 n2:Nat)(x1 x2 y1 y2:List PV)(ax ay:Bool):List PV:=Bv (Cm n1 x1 x2) (Cm n2 y1 y2) ax ay
theorem Rk{xk yk:List Cs}{ax ay:Bool}{p:PV}(h:p∈Bv xk yk ax ay):PairOk xk.length yk.length p:=by
 unfold Bv at h
 rw[List.mem_append,List.mem_append]at h
 rcases h with(h|h)|h
 ·obtain⟨x,hx,h⟩:=List.mem_flatMap.mp h
  obtain⟨y,hy,rfl⟩:=List.mem_map.mp h
  obtain⟨i,hi,rfl⟩:=C5 hx
  obtain⟨j,hj,rfl⟩:=C5 (List.mem_filter.mp hy).1
  exact .both i j hi hj
 ·unfold Fo at h
  split at h
  ·obtain⟨x,hx,rfl⟩:=List.mem_map.mp h
   obtain⟨i,hi,rfl⟩:=C5 (List.mem_filter.mp (show x∈List.filter _ _ from hx)).1
   exact .left i hi
  ·cases h
 ·unfold M1 at h
  split at h
  ·obtain⟨x,hx,rfl⟩:=List.mem_map.mp h
   obtain⟨i,hi,rfl⟩:=C5 (List.mem_filter.mp (show x∈List.filter _ _ from hx)).1
   exact .right i hi
  ·cases h
theorem H5{β:Type}(f:PV→List β)(c:Nat)(l:List PV):(∀x∈l,(f x).length≤c)→(l.flatMap f).length≤l.length*c:=by
 induction l with
 |nil=>
  intro _
  simp
 |cons x l ih=>
  intro h
  have h1:=h x (List.mem_cons_self ..)
  have h2:=ih fun y hy=>h y (List.mem_cons_of_mem _ hy)
  rw[List.flatMap_cons,List.length_append,List.length_cons,Nat.succ_mul,Nat.add_comm]
  exact Nat.add_le_add h2 h1
theorem Nk{xk yk:List Cs}{ax ay:Bool}(h1:xk.length≤4)(h2:yk.length≤4):(Bv xk yk ax ay).length≤24:=by
 have a1:(Bz xk yk).length≤xk.length*yk.length:=by
  have:=H5 (fun x=>((rngI yk.length).filter fun y=>decide (B1 yk y=B1 xk x)).map fun y=>PV.tup [x,y]) yk.length (rngI xk.length) (fun x J=>by
   rw[List.length_map];exact Nat.le_trans (List.length_filter_le _ _) (by simp))
  simpa[Bz]using this
 have a2:xk.length*yk.length≤16:=Nat.le_trans (Nat.mul_le_mul h1 h2) (by decide)
 have a3:(Fo xk yk ax).length≤4:=by
  unfold Fo;split
  ·rw[List.length_map];exact Nat.le_trans (List.length_filter_le _ _) (by simpa using h1)
  ·simp
 have a4:(M1 yk xk ay).length≤4:=by
  unfold M1;split
  ·rw[List.length_map];exact Nat.le_trans (List.length_filter_le _ _) (by simpa using h2)
  ·simp
 unfold Bv;rw[List.length_append,List.length_append];exact Nat.add_le_add (Nat.add_le_add (Nat.le_trans a1 a2) a3) a4
noncomputable abbrev Jt(X Y:PV)(ax ay:Bool)(sf:PV)(od:Bool)(P w10:Option Val)(xk yk:PV)(C w14 w15 w16 w17 w18:Option Val):List (Option Val):=
 [some (.v X),some (.v Y),some (.v byKL),some (.v (.bool ax)),some (.v (.bool ay)),some (.v sf),some (.v (.bool od)),some (.v (.lst [.int 0,.int 1])),some (.v (.lst [.int 0,.int 1])),P,w10,some (.v xk),some (.v yk),C,w14,w15,w16,w17,w18]
theorem Abd(hx:Cl3 n1 x1 x2 x3)(hy:Cl3 n2 y1 y2 y3)(h1:n1≤4)(h2:n2≤4){u v:Cs}(hu:u=Ce∨u=Ee)(hv:v=Ce∨v=Ee){ax ay od:Bool}{sf:PV}:
 exs pol (phi pol codes (n+6)) Fv.body [[some (.v (fr3 x1 x2 x3 (nm3 u) n1)),some (.v (fr3 y1 y2 y3 (nm3 v) n2)),some (.v byKL),some (.v (.bool ax)),some (.v (.bool ay)),some (.v sf),some (.v (.bool od)),none,none,none,none,none,none,none,none,none,none,none,none]] []=
 exs pol (phi pol codes (n+6)) mf5 [Jt (fr3 x1 x2 x3 (nm3 u) n1) (fr3 y1 y2 y3 (nm3 v) n2) ax ay sf od (some (.v (.lst (P0 n1 n2 x1 x2 y1 y2 ax ay)))) none (.lst ((Cm n1 x1 x2).map .str)) (.lst ((Cm n2 y1 y2).map .str)) (some (.h 0)) (some (.v (.int 1))) none none none none]
  [.list [kcol A9 ((P0 n1 n2 x1 x2 y1 y2 ax ay).map (kv x1 y1)),kcol A8 ((P0 n1 n2 x1 x2 y1 y2 ax ay).map (kv x2 y2))]]:=by
 have n4:∀{k:Nat},k≤4→k≤4096:=fun h=>Nat.le_trans h (by decide)
 have lk1:=G1 (L:=n1) (x1:=x1) (x2:=x2)
 have lk2:=G1 (L:=n2) (x1:=y1) (x2:=y2)
 have k1:=Kw (n:=n) (σ:=[]) hx.k hx.l hx.lx hx.ly (n4 h1)
 have k2:=Kw (n:=n) (σ:=[]) hy.k hy.l hy.lx hy.ly (n4 h2)
 rw[←Xf]at k1 k2
 have r1:=Nat.le_trans (Nat.le_of_eq lk1) h1
 have r2:=Nat.le_trans (Nat.le_of_eq lk2) h2
 have pl:(P0 n1 n2 x1 x2 y1 y2 ax ay).length≤4096:=Nat.le_trans (Nk r1 r2) (by decide)
 have mp:=Kz (n:=n+4) (σ:=[]) (ax:=ax) (ay:=ay) (n4 r1) (n4 r2) pl
 have po:∀p∈P0 n1 n2 x1 x2 y1 y2 ax ay,PairOk n1 n2 p:=fun p hp=>by have:=Rk hp;rwa[lk1,lk2]at this
 have sum:∀{a b:Nat},a=n1→b=n2→a+b≤4096:=fun e1 e2=>Nat.le_trans (Nat.add_le_add (Nat.le_trans (Nat.le_of_eq e1) h1) (Nat.le_trans (Nat.le_of_eq e2) h2)) (by decide)
 have c1:=fun σ=>Hj (n:=n+1) (σ:=σ) (kd:=A9) (xs:=x1) (ys:=y1) K2i (sum hx.lx hy.lx) (by rw[hx.lx,hy.lx];exact po) pl
 have c2:=fun σ=>Hj (n:=n+1) (σ:=σ) (kd:=A8) (xs:=x2) (ys:=y2) K2c (sum hx.ly hy.ly) (by rw[hx.ly,hy.ly];exact po) pl
 have fr:=fun(L:Nat) (hL:L≤4) (σ:Sto) (cols names:List PV)=>Hm (n:=n+5) (σ:=σ) (cols:=cols) (names:=names) (rl:=rw1 L) (Nat.le_trans (Nat.le_of_eq Dh) (n4 hL))
 simp only[Dh]at fr
 change A1 pol _ 60 false _ _=.ok (.v (.lst (P0 n1 n2 x1 x2 y1 y2 ax ay)),_)at mp
 generalize P0 n1 n2 x1 x2 y1 y2 ax ay=P at mp c1 c2⊢
 exact A5 (A2 (A7 (A0 rfl) (A3 (A0 rfl))) (Lj hu)) (A5 (A2 (A7 (A0 rfl) (A3 (A0 rfl))) (Lj hv)) (Ej (D6 (z:=false) (Au (A3 (A0 rfl)) rfl) rfl rfl) (B8
  (A5 (A2 (A7 (Aq (m:=false) (A0 rfl) rfl rfl (show 2≤4096 by decide) (B4 rfl (B4 rfl rfl))) (A3 (A2 (A3 (A0 rfl)) (fr n1 h1 _ _ _)))) k1)
  (A5 (A2 (A7 (Aq (m:=false) (A0 rfl) rfl rfl (show 2≤4096 by decide) (B4 rfl (B4 rfl rfl))) (A3 (A2 (A3 (A0 rfl)) (fr n2 h2 _ _ _)))) k2)
  (A5 (A2 (A7 (A0 rfl) (A7 (A0 rfl) (A7 (A0 rfl) (A3 (A0 rfl))))) mp) rfl)))
  (A5 (v:=.h 0) rfl (Am (Au (A3 (Au (A3 (A0 rfl)) rfl)) rfl) rfl (B5 (L:=2) (by decide))
   (Bk (Af (B2 (As rfl rfl) rfl (A2 (A7 (Aj (Al (A0 rfl) rfl rfl) rfl rfl rfl) (A7 (Aj (Al (A0 rfl) rfl rfl) rfl rfl rfl) (A3 (A0 rfl)))) (c1 _)) (show 0≤4096 by decide)) rfl)
   (Bk (Af (B2 (As rfl rfl) rfl (A2 (A7 (Aj (Al (A0 rfl) rfl rfl) rfl rfl rfl) (A7 (Aj (Al (A0 rfl) rfl rfl) rfl rfl rfl) (A3 (A0 rfl)))) (c2 _)) (show 1≤4096 by decide)) rfl) rfl)) rfl)))))
theorem Xi{P:List PV}{o:List Nat}(ho:o.Perm (List.range P.length)):((pv o).map (Ao P)).Perm P:=by
 have e:(pv (List.range P.length)).map (Ao P)=P:=by
  apply List.ext_getElem
  ·simp
  ·intro i h1 h2
   simp[Lq,Lo,h2]
 have:=(ho.map fun(i:Nat)=>PV.int i).map (Ao P)
 rw[show(List.range P.length).map (fun(i:Nat)=>PV.int i)=pv (List.range P.length)from rfl,e]at this
 exact this
theorem Rj{P:List PV}{o:List Nat}(ho:o.Perm (List.range P.length))(f:PV→PV):(pv o).map (Ao (P.map f))=((pv o).map (Ao P)).map f:=by
 simp only[List.map_map]
 refine List.map_congr_left fun i hi=>?_
 have:i<P.length:=List.mem_range.mp (ho.mem_iff.mp hi)
 simp[Lq,Lo,this]
theorem A0k{Q:PV→Prop}(hx:∀x∈xs,Q x)(hy:∀x∈ys,Q x){p:PV}(h:PairOk xs.length ys.length p):Q (kv xs ys p):=by
 have l:∀i,i<xs.length→Q (((xs++ys)[i]?).getD .none):=fun i h1=>by rw[List.getElem?_append_left h1,List.getElem?_eq_getElem h1];exact hx _ (List.getElem_mem h1)
 cases h with
 |both i j h1 h2=>exact l i h1
 |left i h1=>exact l i h1
 |right j h2=>
  show Q (((xs++ys)[xs.length+j]?).getD .none)
  rw[List.getElem?_append_right (Nat.le_add_right _ _),Nat.add_sub_cancel_left,List.getElem?_eq_getElem h2]
  exact hy _ (List.getElem_mem h2)
theorem Abc{X Y:PV}{ax ay:Bool}{sf:PV}{P:List PV}{xk yk:PV}(hk:∀x∈xs,KI x)(hl:∀x∈ys,LI x){f g:PV→PV}(e1:xs=P.map f)(e2:ys=P.map g)(hP:P.length<64):
 ∃o:List Nat,o.Perm (List.range P.length)∧exs pol (phi pol codes (n+6)) mf5 [Jt X Y ax ay sf true (some (.v (.lst P))) none xk yk (some (.h 0)) (some (.v (.int 1))) none none none none] [.list [kcol A9 xs,kcol A8 ys]]=
  exs pol (phi pol codes (n+6)) mf6 [Jt X Y ax ay sf true (some (.v (.lst ((pv o).map (Ao P))))) none xk yk (some (.h 1)) (some (.v (.int 1))) (some (.v (.lst (pv o)))) none none none]
   [.froz (.lst [kcol A9 xs,kcol A8 ys]),.list [kcol A9 ((pv o).map (Ao xs)),kcol A8 ((pv o).map (Ao ys))]]:=by
 have lx:xs.length=P.length:=by rw[e1,List.length_map]
 have ly:ys.length=P.length:=by rw[e2,List.length_map]
 have KC:KCols P.length xs ys:=⟨hk,hl,lx,ly⟩
 have hP4:=Nat.le_trans (Nat.le_of_lt hP) (show 64≤4096 by decide)
 have key:∀(vs:List PV),SVs P.length vs→(∀σ,A1 pol (phi pol codes (n+6)) 64 false [.v (.lst [kcol A9 xs,kcol A8 ys]),.v (.bool (ax||ay))] σ=.ok (.v (.lst vs),σ))→
  ∃o:List Nat,o.Perm (List.range P.length)∧∀{R},exs pol (phi pol codes (n+6)) mf6 [Jt X Y ax ay sf true (some (.v (.lst ((pv o).map (Ao P))))) none xk yk (some (.h 1)) (some (.v (.int 1))) (some (.v (.lst (pv o)))) none none none]
   [.froz (.lst [kcol A9 xs,kcol A8 ys]),.list [kcol A9 ((pv o).map (Ao xs)),kcol A8 ((pv o).map (Ao ys))]]=R→exs pol (phi pol codes (n+6)) mf5 [Jt X Y ax ay sf true (some (.v (.lst P))) none xk yk (some (.h 0)) (some (.v (.int 1))) none none none none] [.list [kcol A9 xs,kcol A8 ys]]=R:=by
  intro vs hv hm
  obtain⟨o,ho,hc⟩:=Tc (n:=n) hv hP
  refine⟨o,ho,fun k=>?_⟩
  have hlt:∀{i:Nat},i∈o→i<P.length:=fun hi=>List.mem_range.mp (ho.mem_iff.mp hi)
  have hol4:(pv o).length≤4096:=Nat.le_trans (Nat.le_of_eq (C9.trans (ho.length_eq.trans List.length_range))) hP4
  have hpl:∀x∈pv o,PlOk P.length x:=fun x hx=>by
   obtain⟨i,hi,rfl⟩:=List.mem_map.mp hx
   exact⟨Int.natCast_nonneg i,Int.ofNat_lt.mpr (hlt hi)⟩
  have pi:=fun σ=>Cl (n:=n+4) (σ:=σ) (kd:=A9) (xs:=xs) K2i (places:=pv o) (by rw[lx];exact hpl) (by rw[lx];exact hP4) hol4
  have pc:=fun σ=>Cl (n:=n+4) (σ:=σ) (kd:=A8) (xs:=ys) K2c (places:=pv o) (by rw[ly];exact hpl) (by rw[ly];exact hP4) hol4
  have fin:∀x∈pv o,∀{τ:Sto} {ρ:PEnv},getV ρ 1 9=some (.v (.lst P))→getV ρ 0 0=some (.v x)→ev pol (phi pol codes (n+6)) ρ false (.sub (.var 1 9) (.var 0 0)) τ=.ok (.v (Ao P x),τ):=fun x hx τ ρ h1 h2=>by
   obtain⟨i,hi,rfl⟩:=List.mem_map.mp hx
   exact Aj (A0 h1) (A0 h2) rfl (Ks hP4 (Int.natCast_nonneg i) (Int.ofNat_lt.mpr (hlt hi)))
  exact Ai (Di (z:=true) (Ag (Au (A3 (A0 rfl)) rfl) rfl rfl) (A0 rfl)) (B8 (A5 (A2 (A3 (A2 (A7 (As rfl rfl) (A3 (A7i (A0 rfl) (A0 rfl))))
   ((Ec (ps:=[.lst [kcol A9 xs,kcol A8 ys],.bool (ax||ay)]) rfl rfl).trans (hm _)))) (hc _)) (A5 (Aq (A0 rfl) rfl rfl hol4 (Ax (Ao P) fun x hx=>fin x hx rfl rfl))
   (A5 (v:=.h 1) (σ':=[.froz (.lst [kcol A9 xs,kcol A8 ys]),.list [kcol A9 ((pv o).map (Ao xs)),kcol A8 ((pv o).map (Ao ys))]]) (Aq (v:=.v (.lst [kcol A9 xs,kcol A8 ys])) (xs:=[kcol A9 xs,kcol A8 ys]) (As rfl rfl) rfl rfl (show 2≤4096 by decide) (B4 (A2 (A7 (A0 rfl) (A3 (A0 rfl))) (pi _)) (B4 (A2 (A7 (A0 rfl) (A3 (A0 rfl))) (pc _)) rfl))) rfl))) k)
 cases hax:(ax||ay)with
 |true=>exact(key _ (.inr ⟨_,_,rfl,KC.s1,KC.s2⟩) fun σ=>by rw[hax];exact L9).imp fun o h=>⟨h.1,h.2 rfl⟩
 |false=>
  refine(key _ (.inl ⟨_,rfl,A8,(List.range P.length).map fun i=>.str (jt (xs.getD i .none) (ys.getD i .none)),rfl,K2c,by rw[List.length_map,List.length_range],fun x hx=>?_⟩) fun σ=>by rw[hax];exact La KC hP4).imp fun o h=>⟨h.1,h.2 rfl⟩
  obtain⟨i,_,rfl⟩:=List.mem_map.mp hx
  exact .inr (.inr ⟨rfl,_,rfl⟩)
end
end Mine.Internal
namespace Mine.Internal
open PySem
section
variable {pol0:Pol} {Φ:Phi} {ρ:PEnv} {σ σ':Sto} {m:Bool} {n:Nat} {k i a:PV} {xs ys cols names rl:List PV} {kd:Cs} {L n1 n2:Nat} {vs:List PV} {x1 x2 x3 y1 y2 y3:List PV}
noncomputable def fstP(x:PV):PV:=(pTup x fun l=>lC l fun a J=>some a).getD .none
noncomputable def sndP(x:PV):PV:=(pTup x fun l=>lC l fun J l=>lC l fun b J=>some b).getD .none
theorem Pj{a b:PV}:fstP (.tup [a,b])=a:=rfl
theorem Ot{a b:PV}:sndP (.tup [a,b])=b:=rfl
theorem A8e{p:PV}(h:PairOk n1 n2 p):PlOk n1 (fstP p):=by
 cases h with
 |both i j a b=>exact⟨Int.natCast_nonneg i,Int.ofNat_lt.mpr a⟩
 |left i a=>exact⟨Int.natCast_nonneg i,Int.ofNat_lt.mpr a⟩
 |right j b=>trivial
theorem A78{p:PV}(h:PairOk n1 n2 p):PlOk n2 (sndP p):=by
 cases h with
 |both i j a b=>exact⟨Int.natCast_nonneg j,Int.ofNat_lt.mpr b⟩
 |left i a=>trivial
 |right j b=>exact⟨Int.natCast_nonneg j,Int.ofNat_lt.mpr b⟩
noncomputable abbrev mfr(P:List PV)(x1 x2 x3 y1 y2 y3:List PV)(names:List PV):PV:=
 frm [kcol A9 (P.map (kv x1 y1)),kcol A8 (P.map (kv x2 y2)),kcol A9 (P.map fun p=>Ao x3 (fstP p)),kcol A9 (P.map fun p=>Ao y3 (sndP p))] names (rw1 P.length)
theorem Aa4(hx:Cl3 n1 x1 x2 x3)(hy:Cl3 n2 y1 y2 y3)(h1:n1≤4)(h2:n2≤4){u v nu nv s1 s2:Cs}{ax ay od:Bool}{P:List PV}{xk yk:PV}{w14 w15:Option Val}{σ0:Sto}{K1 K2:PV}(hP:P.length<64)(po:∀p∈P,PairOk n1 n2 p)(v1:W2 K1)(v2:W2 K2)
 (ho1:∀(σ:Sto) (n:Nat),A1 pol (phi pol codes (n+1)) 62 false [.v (.lst (nm3 u)),.v (.lst (nm3 v)),.v byKL,.v (.str s1)] σ=.ok (.v (.lst [S1 nu]),σ))
 (ho2:∀(σ:Sto) (n:Nat),A1 pol (phi pol codes (n+1)) 62 false [.v (.lst (nm3 v)),.v (.lst (nm3 u)),.v byKL,.v (.str s2)] σ=.ok (.v (.lst [S1 nv]),σ)):
 retv (exs pol (phi pol codes (n+6)) mf6 [Jt (fr3 x1 x2 x3 (nm3 u) n1) (fr3 y1 y2 y3 (nm3 v) n2) ax ay (.lst [.str s1,.str s2]) od (some (.v (.lst P))) none xk yk (some (.h σ0.length)) w14 w15 none none none] (σ0++[.list [K1,K2]]))=
  .ok (frm [K1,K2,kcol A9 (P.map fun p=>Ao x3 (fstP p)),kcol A9 (P.map fun p=>Ao y3 (sndP p))] [S1 Iq,S1 Qo,S1 nu,S1 nv] (rw1 P.length)):=by
 have hP4:=Nat.le_trans (Nat.le_of_lt hP) (show 64≤4096 by decide)
 have cn:∀(σ:Sto) (cols:List PV) (w:Cs) (rl:List PV),A1 pol (phi pol codes (n+6)) 40 false [.v (frm cols (nm3 w) rl)] σ=.ok (.v (.lst (nm3 w)),σ):=fun σ cols w rl=>
  Lf (n:=n+2) (show 3≤4096 by decide) (fun x hx=>by
   rcases List.mem_cons.mp hx with rfl|hx
   ·trivial
   rcases List.mem_cons.mp hx with rfl|hx
   ·trivial
   cases List.mem_singleton.mp hx
   trivial)
 have i3:Az (.rng 0 ((3:Nat):Int) 1)=some [.int 0,.int 1,.int 2]:=B5 (L:=3) (by decide)
 have n4:∀{k:Nat},k≤4→k≤4096:=fun h=>Nat.le_trans h (by decide)
 have p3:=fun σ=>Cl (n:=n+4) (σ:=σ) (kd:=A9) (xs:=x3) K2i (places:=P.map fstP) (fun x hx'=>by
  obtain⟨p,hp,rfl⟩:=List.mem_map.mp hx'
  rw[hx.l3];exact A8e (po p hp)) (by rw[hx.l3];exact n4 h1) (by rw[List.length_map];exact hP4)
 have q3:=fun σ=>Cl (n:=n+4) (σ:=σ) (kd:=A9) (xs:=y3) K2i (places:=P.map sndP) (fun x hx'=>by
  obtain⟨p,hp,rfl⟩:=List.mem_map.mp hx'
  rw[hy.l3];exact A78 (po p hp)) (by rw[hy.l3];exact n4 h2) (by rw[List.length_map];exact hP4)
 have pr:=fun σ=>Hi (n:=n+3) (σ:=σ) (L:=P.length) (Nat.le_trans (Nat.le_of_lt hP) (by decide))
 have end1:∀{C:List PV} {ρ:PEnv} {D:List PV} {e:CE} {x:PV},getV ρ 0 13=some (.h σ0.length)→C.length≤4096→ev pol (phi pol codes (n+6)) ρ false e (σ0++[.list C])=.ok (.v x,σ0++[.list C])→D=C++[x]→exs pol (phi pol codes (n+6)) (.cons (.expr (.meth .append (.var 0 13) (.cons e .nil))) .nil) ρ (σ0++[.list C])=.ok (.next,ρ,σ0++[.list D]):=fun g hl h q=>by
  subst q
  exact(Af (B2 (As g (Er Cv)) Cv h hl) rfl).trans (congrArg (fun τ=>Res.ok (Fl.next,_,τ)) Es)
 generalize hC:[K1,K2,kcol A9 ((P.map fstP).map (Ao x3)),kcol A9 ((P.map sndP).map (Ao y3))]=C
 have fz:frzs (σ0++[PO.list C]) [.h σ0.length,.v (.lst [S1 Iq,S1 Qo,S1 nu,S1 nv]),.v (icol (rw1 P.length))]=some ([.lst C,.lst [S1 Iq,S1 Qo,S1 nu,S1 nv],icol (rw1 P.length)],σ0++[.froz (.lst C)]):=
  (congrArg (fun(o:Option (PV×Sto))=>o.bind (kFz [.v (.lst [S1 Iq,S1 Qo,S1 nu,S1 nv]),.v (icol (rw1 P.length))])) (U7 Cv)).trans (congrArg (fun τ=>some ([PV.lst C,.lst [S1 Iq,S1 Qo,S1 nu,S1 nv],icol (rw1 P.length)],τ)) Es)
 have nf:=(Ec rfl fz).trans (Jo (n:=n+3) (cols:=C) (names:=[S1 Iq,S1 Qo,S1 nu,S1 nv]) (rl:=rw1 P.length) (fun c hc=>by
  rw[←hC]at hc
  rcases List.mem_cons.mp hc with rfl|hc
  ·exact v1
  rcases List.mem_cons.mp hc with rfl|hc
  ·exact v2
  rcases List.mem_cons.mp hc with rfl|hc
  ·trivial
  cases List.mem_singleton.mp hc
  trivial) (by rw[←hC];exact(show 4≤4096 by decide)) (show 4≤4096 by decide))
 refine(Ab (A5 (A2 (A3 (A0 rfl)) (cn _ _ _ _)) (A5 (A2 (A3 (A0 rfl)) (cn _ _ _ _))
  (Am (Au (A3 (Au (A3 (A0 rfl)) rfl)) rfl) rfl i3 (Bk (A6 (Ag (A0 rfl) (A0 rfl) rfl) rfl) (Bk (A6 (Ag (A0 rfl) (A0 rfl) rfl) rfl) (Bk (Ai (Ag (A0 rfl) (A0 rfl) rfl) (B8 (end1 (C:=[K1,K2]) rfl (show 2≤4096 by decide) (A2 (A7 (Aj (Al (A0 rfl) rfl rfl) (A0 rfl) rfl rfl) (A3 (Aq (A0 rfl) rfl rfl hP4 (Ax fstP fun x hx=>by cases po x hx<;>rfl)))) (p3 _)) rfl) rfl)) rfl)))
  (Am (Au (A3 (Au (A3 (A0 rfl)) rfl)) rfl) rfl i3 (Bk (A6 (Ag (A0 rfl) (A0 rfl) rfl) rfl) (Bk (A6 (Ag (A0 rfl) (A0 rfl) rfl) rfl) (Bk (Ai (Ag (A0 rfl) (A0 rfl) rfl) (B8 (end1 (C:=[K1,K2,kcol A9 ((P.map fstP).map (Ao x3))]) rfl (show 3≤4096 by decide) (A2 (A7 (Aj (Al (A0 rfl) rfl rfl) (A0 rfl) rfl rfl) (A3 (Aq (A0 rfl) rfl rfl hP4 (Ax sndP fun x hx=>by cases po x hx<;>rfl)))) (q3 _)) hC.symm) rfl)) rfl)))
  (A5 (En (Au (A3 (A0 rfl)) rfl) (A2 (A7 (A0 rfl) (A7 (A0 rfl) (A7 (A0 rfl) (A3 (Aj (A0 rfl) rfl rfl rfl))))) (ho1 _ _)) rfl)
  (A5 (En (A0 rfl) (A2 (A7 (A0 rfl) (A7 (A0 rfl) (A7 (A0 rfl) (A3 (Aj (A0 rfl) rfl rfl rfl))))) (ho2 _ _)) rfl)
  (Aa (A2 (A7 (As rfl (Er Cv)) (A7 (A0 rfl) (A3 (A2 (A3 (Bf (A0 rfl) rfl hP4)) (pr _))))) nf)))))))) rfl).trans ?_
 rw[←hC,List.map_map,List.map_map];rfl
theorem Lb(hx:Cl3 n1 x1 x2 x3)(hy:Cl3 n2 y1 y2 y3)(h1:n1≤4)(h2:n2≤4){u v nu nv s1 s2:Cs}(hu:u=Ce∨u=Ee)(hv:v=Ce∨v=Ee)(ax ay od:Bool)
 (ho1:∀(σ:Sto) (n:Nat),A1 pol (phi pol codes (n+1)) 62 false [.v (.lst (nm3 u)),.v (.lst (nm3 v)),.v byKL,.v (.str s1)] σ=.ok (.v (.lst [S1 nu]),σ))
 (ho2:∀(σ:Sto) (n:Nat),A1 pol (phi pol codes (n+1)) 62 false [.v (.lst (nm3 v)),.v (.lst (nm3 u)),.v byKL,.v (.str s2)] σ=.ok (.v (.lst [S1 nv]),σ)):
 ∃P:List PV,P.Perm (P0 n1 n2 x1 x2 y1 y2 ax ay)∧∀σ:Sto,A1 pol (phi pol codes (n+7)) 65 false [.v (fr3 x1 x2 x3 (nm3 u) n1),.v (fr3 y1 y2 y3 (nm3 v) n2),.v byKL,.v (.bool ax),.v (.bool ay),.v (.lst [.str s1,.str s2]),.v (.bool od)] σ=
  .ok (.v (mfr P x1 x2 x3 y1 y2 y3 [S1 Iq,S1 Qo,S1 nu,S1 nv]),σ):=by
 have lk1:=G1 (L:=n1) (x1:=x1) (x2:=x2)
 have lk2:=G1 (L:=n2) (x1:=y1) (x2:=y2)
 have pl:(P0 n1 n2 x1 x2 y1 y2 ax ay).length≤24:=Nk (xk:=Cm n1 x1 x2) (yk:=Cm n2 y1 y2) (ax:=ax) (ay:=ay) (Nat.le_trans (Nat.le_of_eq lk1) h1) (Nat.le_trans (Nat.le_of_eq lk2) h2)
 have po:∀p∈P0 n1 n2 x1 x2 y1 y2 ax ay,PairOk n1 n2 p:=fun p hp=>by have:=Rk hp;rwa[lk1,lk2]at this
 have A:=Abd (n:=n) hx hy h1 h2 hu hv (ax:=ax) (ay:=ay) (od:=od) (sf:=.lst [.str s1,.str s2])
 generalize P0 n1 n2 x1 x2 y1 y2 ax ay=P at pl po A⊢
 have hp64:P.length<64:=Nat.lt_of_le_of_lt pl (by decide)
 induction od using Bool.casesOn with
 |true=>
  obtain⟨o,ho,B⟩:=Abc (n:=n) (X:=fr3 x1 x2 x3 (nm3 u) n1) (Y:=fr3 y1 y2 y3 (nm3 v) n2) (ax:=ax) (ay:=ay) (sf:=.lst [.str s1,.str s2]) (xk:=.lst ((Cm n1 x1 x2).map .str)) (yk:=.lst ((Cm n2 y1 y2).map .str))
   (xs:=P.map (kv x1 y1)) (ys:=P.map (kv x2 y2)) (fun x hx'=>by obtain⟨p,hp,rfl⟩:=List.mem_map.mp hx';exact A0k hx.k hy.k (by rw[hx.lx,hy.lx];exact po p hp)) (fun x hx'=>by obtain⟨p,hp,rfl⟩:=List.mem_map.mp hx';exact A0k hx.l hy.l (by rw[hx.ly,hy.ly];exact po p hp))
   rfl rfl hp64
  have pp:=Xi ho
  refine⟨(pv o).map (Ao P),pp,fun σ=>?_⟩
  refine A4 (row:=[some (.v (fr3 x1 x2 x3 (nm3 u) n1)),some (.v (fr3 y1 y2 y3 (nm3 v) n2)),some (.v byKL),some (.v (.bool ax)),some (.v (.bool ay)),some (.v (.lst [.str s1,.str s2])),some (.v (.bool true)),none,none,none,none,none,none,none,none,none,none,none,none]) (x:=mfr ((pv o).map (Ao P)) x1 x2 x3 y1 y2 y3 [S1 Iq,S1 Qo,S1 nu,S1 nv]) rfl rfl rfl rfl ?_
  rw[A,B,Rj ho,Rj ho]
  exact Aa4 (σ0:=[.froz (.lst [kcol A9 (P.map (kv x1 y1)),kcol A8 (P.map (kv x2 y2))])]) hx hy h1 h2 (by rw[pp.length_eq];exact hp64) (fun p hp=>po p (pp.mem_iff.mp hp)) trivial trivial ho1 ho2
 |false=>
  refine⟨P,.refl _,fun σ=>?_⟩
  refine A4 (row:=[some (.v (fr3 x1 x2 x3 (nm3 u) n1)),some (.v (fr3 y1 y2 y3 (nm3 v) n2)),some (.v byKL),some (.v (.bool ax)),some (.v (.bool ay)),some (.v (.lst [.str s1,.str s2])),some (.v (.bool false)),none,none,none,none,none,none,none,none,none,none,none,none]) (x:=mfr P x1 x2 x3 y1 y2 y3 [S1 Iq,S1 Qo,S1 nu,S1 nv]) rfl rfl rfl rfl ?_
  have B:exs pol (phi pol codes (n+6)) mf5 [Jt (fr3 x1 x2 x3 (nm3 u) n1) (fr3 y1 y2 y3 (nm3 v) n2) ax ay (.lst [.str s1,.str s2]) false (some (.v (.lst P))) none (.lst ((Cm n1 x1 x2).map .str)) (.lst ((Cm n2 y1 y2).map .str)) (some (.h 0)) (some (.v (.int 1))) none none none none]
   [.list [kcol A9 (P.map (kv x1 y1)),kcol A8 (P.map (kv x2 y2))]]=exs pol (phi pol codes (n+6)) mf6 [Jt (fr3 x1 x2 x3 (nm3 u) n1) (fr3 y1 y2 y3 (nm3 v) n2) ax ay (.lst [.str s1,.str s2]) false (some (.v (.lst P))) none (.lst ((Cm n1 x1 x2).map .str)) (.lst ((Cm n2 y1 y2).map .str)) (some (.h 0)) (some (.v (.int 1))) none none none none]
   [.list [kcol A9 (P.map (kv x1 y1)),kcol A8 (P.map (kv x2 y2))]]:=A6 (Di (Ag (Au (A3 (A0 rfl)) rfl) rfl rfl) (A0 rfl)) rfl
  rw[A,B]
  exact Aa4 (σ0:=[]) hx hy h1 h2 hp64 po trivial trivial ho1 ho2
end
end Mine.Internal
namespace Mine.Internal
open PySem
section
variable {pol0:Pol} {Φ:Phi} {ρ:PEnv} {σ σ':Sto} {m:Bool} {n:Nat} {k i a:PV} {xs ys cols names rl:List PV} {kd:Cs} {L n1 n2:Nat} {vs:List PV} {x1 x2 x3 y1 y2 y3:List PV} {ax ay:Bool} {R:PV}
noncomputable abbrev KT(n:Nat)(X Y:PV)(ax ay:Bool)(s1 s2:Cs)(od:Bool)(R:PV):Prop:=∀σ:Sto,A1 pol (phi pol codes (n+8)) 65 false [.v X,.v Y,.v byKL,.v (.bool ax),.v (.bool ay),.v (.lst [.str s1,.str s2]),.v (.bool od)] σ=.ok (.v R,σ)
noncomputable abbrev bRow(args:PV):List (Option Val):=[some (.v .none),some (.v args),some (.v .none),none,none,none,none,none,none,none,none,none,none,none,none,none,none]
theorem A7c:A1 pol (phi pol codes (n+3)) 13 false [.v (ccol [S1 Oq,S1 t_P])] σ=.ok (.v (.lst [S1 Oq,S1 t_P]),σ):=
 A4 (row:=[some (.v (ccol [S1 Oq,S1 t_P])),none,none]) (x:=.lst [S1 Oq,S1 t_P]) rfl rfl rfl rfl (by kernel_rfl)
theorem A0l:A1 pol (phi pol codes (n+1)) 68 false [.v (ccol [S1 Iq,S1 Qo])] σ=.ok (.v byKL,σ):=Fa (by simp)
theorem A83:A1 pol (phi pol codes (n+1)) 68 false [.v (ccol [S1 T8,S1 T7])] σ=.ok (.v (.lst [S1 T8,S1 T7]),σ):=Fa (by simp)
theorem Aa9:A1 pol (phi pol codes (n+1)) 68 false [.v (ccol [S1 Iq])] σ=.ok (.v (.lst [S1 Iq]),σ):=Fa (by simp)
theorem it0{b:PV}:A1 pol (phi pol codes (n+8)) 34 false [.v .none,.v b] σ=.ok (.v b,σ):=Td
theorem it1{b:Bool}{c:PV}:A1 pol (phi pol codes (n+8)) 34 false [.v (flag b),.v c] σ=.ok (.v (.bool b),σ):=X6
theorem Qt{is:List Nat}{c:CE}{r:CSs}{xs:List PV}{ρ':PEnv}{R:ResS}(h:ev pol Φ ρ false c σ=.ok (.v (.lst xs),σ'))(h2:Bx is xs ρ=some ρ')(k:exs pol Φ r ρ' σ'=R):exs pol Φ (.cons (.unp is c) r) ρ σ=R:=by
 refine Eq.trans (Res.bind_at (f:=cSeq pol Φ r) (a:=(.next,ρ',σ')) ?_) k
 exact(Res.bind_at (f:=cUnp is ρ) h).trans (congrArg (fun(o:Option PEnv)=>Ac (o.map (kEnv σ'))) h2)
theorem A9f{s r:CSs}{x:PV}(h:exs pol Φ s ρ σ=.exc x):(exs pol Φ s ρ σ).bind (cSeq pol Φ r)=.exc x:=congrArg (fun z=>Res.bind z (cSeq pol Φ r)) h
theorem A6i{i:Nat}{c:CE}{r:CSs}{x:PV}(h:ev pol Φ ρ m c σ=.exc x):exs pol Φ (.cons (.asg i m c) r) ρ σ=.exc x:=congrArg (fun z=>(Res.bind z (cAsg i ρ)).bind (cSeq pol Φ r)) h
noncomputable abbrev bR(args X Y b bx bw al p q so su:PV)(u v w:Option Val):PEnv:=[[some (.v .none),some (.v args),some (.v .none),some (.v fml),some (.v X),some (.v Y),some (.v b),some (.v bx),some (.v bw),some (.v al),some (.v p),some (.v q),some (.v so),some (.v su),u,v,w]]
section
variable {args X Y b bx bw al p q so su:PV}
theorem Fx{RR:ResS}(T:A1 pol (phi pol codes (n+8)) 26 false [.v args,.v fml] []=.ok (.v (.lst [X,Y,b,bx,bw,al,p,q,so,su]),[]))(fx:A1 pol (phi pol codes (n+8)) 67 false [.v X,.v (S1 t_x)] []=.ok (.v X,[]))(fy:A1 pol (phi pol codes (n+8)) 67 false [.v Y,.v (S1 t_y)] []=.ok (.v Y,[]))
 (k:exs pol (phi pol codes (n+8)) (tl 4 Bm.body) (bR args X Y b bx bw al p q so su none none none) []=RR):exs pol (phi pol codes (n+8)) Bm.body [bRow args] []=RR:=
 A5 (v:=.v fml) rfl (Qt (A2 (A7 (A0 rfl) (A3 (A0 rfl))) T) rfl (A5 (A2 (A7 (A0 rfl) (A3 rfl)) fx) (A5 (A2 (A7 (A0 rfl) (A3 rfl)) fy) k)))
theorem Ha{K:PV}{d p' q' o':Bool}{s1 s2:Cs}{Y':PV}{r0:Res (Val×Sto)}{T:Res PV}(h1:A1 pol (phi pol codes (n+8)) 34 false [.v al,.v (.bool false)] []=.ok (.v (.bool d),[]))(h2:A1 pol (phi pol codes (n+8)) 34 false [.v p,.v (.bool d)] []=.ok (.v (.bool p'),[]))(h3:A1 pol (phi pol codes (n+8)) 34 false [.v q,.v (.bool d)] []=.ok (.v (.bool q'),[]))(h4:A1 pol (phi pol codes (n+8)) 34 false [.v so,.v (.bool true)] []=.ok (.v (.bool o'),[]))
 (hs:ev pol (phi pol codes (n+8)) (bR args X Y' b bx bw al p q so su (some (.v K)) (some (.v (.bool d))) none) false (.ite (.boolE false (.cons (.cmp .is (.var 0 13) (.cst .none)) (.cons (.notE (.callF 9 (.cons (.var 0 13) .nil))) .nil))) (.lstE (.cons (.cst (.str [46,120])) (.cons (.cst (.str [46,121])) .nil))) (.callF 13 (.cons (.var 0 13) .nil))) []=.ok (.v (.lst [.str s1,.str s2]),[]))
 (hr:A1 pol (phi pol codes (n+8)) 65 false [.v X,.v Y',.v K,.v (.bool p'),.v (.bool q'),.v (.lst [.str s1,.str s2]),.v (.bool o')] []=r0) (hT:∀ρ,retv ((r0.bind (cRet ρ)).bind (cSeq pol (phi pol codes (n+8)) .nil))=T):
 retv (exs pol (phi pol codes (n+8)) (tl 5 Bm.body) (bR args X Y' b bx bw al p q so su (some (.v K)) none none) [])=T:=by
 have A:exs pol (phi pol codes (n+8)) (tl 5 Bm.body) (bR args X Y' b bx bw al p q so su (some (.v K)) none none) []=exs pol (phi pol codes (n+8)) (tl 8 Bm.body) (bR args X Y' b bx bw al p q so su (some (.v K)) (some (.v (.bool d))) (some (.v (.lst [.str s1,.str s2])))) []:=
  A5 (A2 (A7 (A0 rfl) (A3 rfl)) h1) (A5 hs (A6 (Fe (D5 (z:=true) (Au (A3 (A0 rfl)) rfl) rfl rfl) (Ag (op:=.isIn) (x:=.none) rfl (A0 rfl) rfl)) rfl))
 rw[A]
 refine Eq.trans ?_ (hT (bR args X Y' b bx bw al p q so su (some (.v K)) (some (.v (.bool d))) (some (.v (.lst [.str s1,.str s2])))))
 exact congrArg (fun z=>retv ((Res.bind z (cRet (bR args X Y' b bx bw al p q so su (some (.v K)) (some (.v (.bool d))) (some (.v (.lst [.str s1,.str s2])))))).bind (cSeq pol (phi pol codes (n+8)) .nil)))
  (A2 (A7 (A0 rfl) (A7 (A0 rfl) (A7 (A0 rfl) (A7 (A2 (A7 (A0 rfl) (A3 (A0 rfl))) h2) (A7 (A2 (A7 (A0 rfl) (A3 (A0 rfl))) h3) (A7 (A0 rfl) (A3 (A2 (A7 (A0 rfl) (A3 rfl)) h4)))))))) hr)
theorem V2{K:PV}(h:A1 pol (phi pol codes (n+8)) 66 false [.v X,.v Y] []=.ok (.v K,[])):exs pol (phi pol codes (n+8)) (tl 4 Bm.body) (bR args X Y .none .none .none al p q so su none none none) []=exs pol (phi pol codes (n+8)) (tl 5 Bm.body) (bR args X Y .none .none .none al p q so su (some (.v K)) none none) []:=
 Ej (Em (Ag (A0 rfl) rfl rfl)) (B8 (Ej (Ag (A0 rfl) rfl rfl) (B8 (A5 (A2 (A7 (A0 rfl) (A3 (A0 rfl))) h) rfl) rfl)) rfl)
theorem V1{K:PV}(hb:cmpP .isNot b .none=some true)(h:A1 pol (phi pol codes (n+8)) 68 false [.v b] []=.ok (.v K,[])):exs pol (phi pol codes (n+8)) (tl 4 Bm.body) (bR args X Y b .none .none al p q so su none none none) []=exs pol (phi pol codes (n+8)) (tl 5 Bm.body) (bR args X Y b .none .none al p q so su (some (.v K)) none none) []:=
 Ej (Em (Ag (A0 rfl) rfl rfl)) (B8 (Ai (Ag (A0 rfl) rfl hb) (B8 (A5 (A2 (A3 (A0 rfl)) h) rfl) rfl)) rfl)
theorem Np{K:PV}{d:Bool}:ev pol (phi pol codes (n+8)) (bR args X Y b bx bw al p q so .none (some (.v K)) (some (.v (.bool d))) none) false (.ite (.boolE false (.cons (.cmp .is (.var 0 13) (.cst .none)) (.cons (.notE (.callF 9 (.cons (.var 0 13) .nil))) .nil))) (.lstE (.cons (.cst (.str [46,120])) (.cons (.cst (.str [46,121])) .nil))) (.callF 13 (.cons (.var 0 13) .nil))) []=.ok (.v (.lst [.str Qq,.str Qp]),[]):=El (P6 (Ag (A0 rfl) rfl rfl)) rfl
end
noncomputable abbrev D1(hx:Cl3 n1 x1 x2 x3)(h1:n1≤4){u v w nm:PV}:=Rc (n:=n+3) (σ:=[]) (a:=u) (b:=v) (c:=w) (nm:=nm) hx (Nat.le_trans h1 (by decide))
theorem b_1(hx:Cl3 n1 x1 x2 x3)(hy:Cl3 n2 y1 y2 y3)(h1:n1≤4)(h2:n2≤4)(K:KT n (fr3 x1 x2 x3 (nm3 Ce) n1) (fr3 y1 y2 y3 (nm3 Ee) n2) ax ay Qq Qp true R):
 A1 pol (phi pol codes (n+9)) 70 false [.v .none,.v (.lst [ar .none (fr3 x1 x2 x3 (nm3 Ce) n1),ar .none (fr3 y1 y2 y3 (nm3 Ee) n2),ar (S1 Br) (flag ax),ar (S1 Bq) (flag ay)]),.v .none] σ=.ok (.v R,σ):=
 A4 (row:=bRow _) (x:=R) rfl rfl rfl rfl ((congrArg retv (Fx A6w (D1 hx h1) (D1 hy h2) (V2 Le))).trans (Ha it0 it1 it1 it0 Np (K []) fun J=>rfl))
theorem b_2(hx:Cl3 n1 x1 x2 x3)(hy:Cl3 n2 y1 y2 y3)(h1:n1≤4)(h2:n2≤4)(K:KT n (fr3 x1 x2 x3 (nm3 Ce) n1) (fr3 y1 y2 y3 (nm3 Ee) n2) ax ay Qq Qp true R):
 A1 pol (phi pol codes (n+9)) 70 false [.v .none,.v (.lst [ar (S1 t_y) (fr3 y1 y2 y3 (nm3 Ee) n2),ar (S1 t_x) (fr3 x1 x2 x3 (nm3 Ce) n1),ar (S1 Ms) (ccol [S1 Iq,S1 Qo]),ar (S1 Br) (flag ax),ar (S1 Bq) (flag ay)]),.v .none] σ=.ok (.v R,σ):=
 A4 (row:=bRow _) (x:=R) rfl rfl rfl rfl ((congrArg retv (Fx A6v (D1 hx h1) (D1 hy h2) (V1 rfl A0l))).trans (Ha it0 it1 it1 it0 Np (K []) fun J=>rfl))
theorem b_3(hx:Cl3 n1 x1 x2 x3)(hy:Cl3 n2 y1 y2 y3)(h1:n1≤4)(h2:n2≤4)(K:KT n (fr3 x1 x2 x3 (nm3 Ce) n1) (fr3 y1 y2 y3 (nm3 Ee) n2) ax ay Qq Qp true R):
 A1 pol (phi pol codes (n+9)) 70 false [.v .none,.v (.lst [ar .none (fr3 x1 x2 x3 (nm3 Ce) n1),ar .none (fr3 y1 y2 y3 nmz n2),ar (S1 Gu) (ccol [S1 Iq,S1 Qo]),ar (S1 Gs) (ccol [S1 T8,S1 T7]),ar (S1 Br) (flag ax),ar (S1 Bq) (flag ay)]),.v .none] σ=.ok (.v R,σ):=
 A4 (row:=bRow _) (x:=R) rfl rfl rfl rfl ((congrArg retv (Fx A6u (D1 hx h1) (D1 hy h2) (Ai (Di (z:=true) (Ag (A0 rfl) rfl rfl) (Ag (A0 rfl) rfl rfl)) (B8 (A5 (A2 (A3 (A0 rfl)) A0l) (A6 (D5 (z:=true) (Au (A3 (A0 rfl)) rfl) (Au (A3 (A2 (A3 (A0 rfl)) A83)) rfl) rfl) (A5 (A2 (A7 (A0 rfl) (A7 (A2 (A3 (A0 rfl)) A83) (A3 (A0 rfl)))) (X3 (n:=n+3) hy)) rfl))) rfl)))).trans (Ha it0 it1 it1 it0 Np (K []) fun J=>rfl))
theorem b_4(hx:Cl3 n1 x1 x2 x3)(hy:Cl3 n2 y1 y2 y3)(h1:n1≤4)(h2:n2≤4){od:Bool}(K:KT n (fr3 x1 x2 x3 (nm3 Ce) n1) (fr3 y1 y2 y3 (nm3 Ee) n2) ax ay Qq Qp od R):
 A1 pol (phi pol codes (n+9)) 70 false [.v .none,.v (.lst [ar .none (fr3 x1 x2 x3 (nm3 Ce) n1),ar .none (fr3 y1 y2 y3 (nm3 Ee) n2),ar (S1 On) (flag od),ar (S1 Br) (flag ax),ar (S1 Bq) (flag ay)]),.v .none] σ=.ok (.v R,σ):=
 A4 (row:=bRow _) (x:=R) rfl rfl rfl rfl ((congrArg retv (Fx A6t (D1 hx h1) (D1 hy h2) (V2 Le))).trans (Ha it0 it1 it1 it1 Np (K []) fun J=>rfl))
theorem b_5(hx:Cl3 n1 x1 x2 x3)(hy:Cl3 n2 y1 y2 y3)(h1:n1≤4)(h2:n2≤4)(K:KT n (fr3 x1 x2 x3 (nm3 Ce) n1) (fr3 y1 y2 y3 (nm3 Ee) n2) ax ax Qq Qp true R):
 A1 pol (phi pol codes (n+9)) 70 false [.v .none,.v (.lst [ar .none (fr3 x1 x2 x3 (nm3 Ce) n1),ar .none (fr3 y1 y2 y3 (nm3 Ee) n2),ar (S1 Vf) (flag ax)]),.v .none] σ=.ok (.v R,σ):=
 A4 (row:=bRow _) (x:=R) rfl rfl rfl rfl ((congrArg retv (Fx A6s (D1 hx h1) (D1 hy h2) (V2 Le))).trans (Ha it1 it0 it0 it0 Np (K []) fun J=>rfl))
theorem b_6(hx:Cl3 n1 x1 x2 x3)(hy:Cl3 n2 y1 y2 y3)(h1:n1≤4)(h2:n2≤4)(K:KT n (fr3 x1 x2 x3 (nm3 Ce) n1) (fr3 y1 y2 y3 (nm3 Ce) n2) false false Oq t_P true R):
 A1 pol (phi pol codes (n+9)) 70 false [.v .none,.v (.lst [ar .none (fr3 x1 x2 x3 (nm3 Ce) n1),ar .none (fr3 y1 y2 y3 (nm3 Ce) n2),ar (S1 Ms) (ccol [S1 Iq,S1 Qo]),ar (S1 Eg) (ccol [S1 Oq,S1 t_P])]),.v .none] σ=.ok (.v R,σ):=
 A4 (row:=bRow _) (x:=R) rfl rfl rfl rfl ((congrArg retv (Fx A6r (D1 hx h1) (D1 hy h2) (V1 rfl A0l))).trans (Ha it0 it0 it0 it0 (Co (Fe (Ag (A0 rfl) rfl rfl) (Res.bind_at (f:=cNot) (congrArg Ar (A2 (A3 (A0 rfl)) (Rb (n:=n+7) (kd:=A8) (xs:=[S1 Oq,S1 t_P]) (.inr K2c)))))) (A2 (A3 (A0 rfl)) A7c)) (K []) fun J=>rfl))
theorem mz(hx:Cl3 n1 x1 x2 x3)(hy:Cl3 n2 y1 y2 y3){sf:PV}:A1 pol (phi pol codes (n+8)) 65 false [.v (fr3 x1 x2 x3 (nm3 Ce) n1),.v (fr3 y1 y2 y3 nmz n2),.v (.lst [S1 Iq]),.v (.bool false),.v (.bool false),.v sf,.v (.bool true)] σ=.exc (.str mBy):=
 Cc (row:=[some (.v (fr3 x1 x2 x3 (nm3 Ce) n1)),some (.v (fr3 y1 y2 y3 nmz n2)),some (.v (.lst [S1 Iq])),some (.v (.bool false)),some (.v (.bool false)),some (.v sf),some (.v (.bool true)),none,none,none,none,none,none,none,none,none,none,none,none]) (r:=.exc (.str mBy)) rfl rfl rfl rfl (congrArg retv (A5 (A2 (A7 (A0 rfl) (A3 (A0 rfl))) Ti) (A6i (A2 (A7 (A0 rfl) (A3 (A0 rfl))) X9)))) (fun q=>nomatch q)
theorem b_7(hx:Cl3 n1 x1 x2 x3)(hy:Cl3 n2 y1 y2 y3)(h1:n1≤4)(h2:n2≤4):
 A1 pol (phi pol codes (n+9)) 70 false [.v .none,.v (.lst [ar .none (fr3 x1 x2 x3 (nm3 Ce) n1),ar .none (fr3 y1 y2 y3 nmz n2),ar (S1 Ms) (ccol [S1 Iq])]),.v .none] σ=.exc (.str mBy):=
 Cc (row:=bRow _) (r:=.exc (.str mBy)) rfl rfl rfl rfl ((congrArg retv (Fx A6q (D1 hx h1) (D1 hy h2) (V1 rfl Aa9))).trans (Ha it0 it0 it0 it0 Np (mz hx hy) fun J=>rfl)) (fun q=>nomatch q)
noncomputable def mUn:Cs:=[39,98,121,46,120,39,32,97,110,100,32,39,98,121,46,121,39,32,115,112,101,99,105,102,121,32,100,105,102,102,101,114,101,110,116,32,110,117,109,98,101,114,115,32,111,102,32,99,111,108,117,109,110,115]
theorem b_8(hx:Cl3 n1 x1 x2 x3)(hy:Cl3 n2 y1 y2 y3)(h1:n1≤4)(h2:n2≤4):
 A1 pol (phi pol codes (n+9)) 70 false [.v .none,.v (.lst [ar .none (fr3 x1 x2 x3 (nm3 Ce) n1),ar .none (fr3 y1 y2 y3 nmz n2),ar (S1 Gu) (ccol [S1 Iq]),ar (S1 Gs) (ccol [S1 T8,S1 T7])]),.v .none] σ=.exc (.str mUn):=
 Cc (row:=bRow _) (r:=.exc (.str mUn)) rfl rfl rfl rfl (congrArg retv (Fx A6p (D1 hx h1) (D1 hy h2) (Ai (Di (z:=true) (Ag (A0 rfl) rfl rfl) (Ag (A0 rfl) rfl rfl)) (A9f (A5 (A2 (A3 (A0 rfl)) Aa9) (Ai (D5 (z:=false) (Au (A3 (A0 rfl)) rfl) (Au (A3 (A2 (A3 (A0 rfl)) A83)) rfl) rfl) rfl)))))) (fun q=>nomatch q)
theorem b_9(hx:Cl3 n1 x1 x2 x3)(h1:n1≤4):
 A1 pol (phi pol codes (n+9)) 70 false [.v .none,.v (.lst [ar .none (fr3 x1 x2 x3 (nm3 Ce) n1),ar .none (icol [.int 1])]),.v .none] σ=.exc (.str mDf):=
 Cc (row:=bRow _) (r:=.exc (.str mDf)) rfl rfl rfl rfl (congrArg retv (A5 (v:=.v fml) rfl (Qt (A2 (A7 (A0 rfl) (A3 (A0 rfl))) A6o) rfl (A5 (A2 (A7 (A0 rfl) (A3 rfl)) (D1 hx h1)) (A6i (A2 (A7 (A0 rfl) (A3 rfl)) Lc)))))) (fun q=>nomatch q)
end
end Mine.Internal
namespace Mine.Internal
open PySem
section
variable {pol0:Pol} {Φ:Phi} {ρ:PEnv} {σ σ' rest:Sto} {m:Bool} {n:Nat} {k i a:PV} {xs ys cols names rl:List PV} {kd:Cs} {L n1 n2:Nat} {vs:List PV} {x1 x2 x3 y1 y2 y3:List PV} {ax ay:Bool} {R:PV}
theorem Sb{e:CE}{r:CSs}{row:List (Option Val)}:exs pol Φ (.cons (.tryR e) r) [row] []=(tryK [row] (ev pol Φ [row] false e [])).bind (cSeq pol Φ r):=rfl
theorem G0{args:PV}(h:∀σ,A1 pol (phi pol codes (n+9)) 70 false [.v .none,.v args,.v .none] σ=.ok (.v R,σ)):A1 pol (phi pol codes (n+10)) 80 false [.v args] σ=.ok (.v R,σ):=
 A4 (row:=[some (.v args),none]) (x:=R) rfl rfl rfl rfl (by
  rw[show Et.body=.cons (.tryR (.callF 70 (.cons (.cst .none) (.cons (.var 0 0) (.cons (.cst .none) .nil))))) .nil from rfl,Sb,A2 (vs:=[.v .none,.v args,.v .none]) (σ1:=[]) (A7 rfl (A7 (A0 rfl) (A3 rfl))) (h [])];rfl)
theorem Fc{args:PV}{e:Cs}(h:∀σ,A1 pol (phi pol codes (n+9)) 70 false [.v .none,.v args,.v .none] σ=.exc (.str e)):A1 pol (phi pol codes (n+10)) 80 false [.v args] σ=.ok (.v (.str e),σ):=
 A4 (row:=[some (.v args),none]) (x:=.str e) rfl rfl rfl rfl (by
  rw[show Et.body=.cons (.tryR (.callF 70 (.cons (.cst .none) (.cons (.var 0 0) (.cons (.cst .none) .nil))))) .nil from rfl,Sb,A2 (vs:=[.v .none,.v args,.v .none]) (σ1:=[]) (A7 rfl (A7 (A0 rfl) (A3 rfl))) (h [])];rfl)
theorem Vk(h:xs.length≤4096):A1 pol (phi pol codes (n+2)) 78 false [.v (.lst xs)] σ=.ok (.v (ccol xs),σ):=
 A4 (row:=[some (.v (.lst xs))]) (x:=ccol xs) rfl rfl rfl rfl (by kernel_rfl)
theorem Oy{b:Bool}:A1 pol (phi pol codes (n+2)) 79 false [.v (.bool b)] σ=.ok (.v (flag b),σ):=by
 refine A4 (row:=[some (.v (.bool b))]) (x:=flag b) rfl rfl rfl rfl ?_
 induction b using Bool.casesOn<;>kernel_rfl
noncomputable def W4:PV→Prop
 |.int _=>True
 |_=>False
theorem Sl{f:Nat}{vs:List Val}(hp:pol.shared f=true):A1 pol Φ f m vs σ=Φ f vs σ:=by
 unfold A1;rw[hp];rfl
theorem Pv{f:Nat}{c:FC}{vs:List Val}{row:List (Option Val)}{v w:Val}{ρ':PEnv}{σ':Sto}(hp:pol.shared f=true)(hc:codes f=some c)(hb:Ey c vs=some row)(he:exs pol (phi pol codes n) c.body [row] σ=.ok (.ret v,ρ',σ'))(hn:norm σ' v=w):A1 pol (phi pol codes (n+1)) f m vs σ=.ok (w,σ'):=
 (Sl hp).trans ((H0 hc hb).trans ((congrArg (fun r=>Res.bind r cFin) he).trans (congrArg (fun w=>Res.ok (w,σ')) hn)))
noncomputable abbrev Pz(ps:List PV):Prop:=(∀x∈ps,W4 x)∧ps.length≤4096
inductive Coin(ps:List PV)(k:Int):Prop
 |mk (c:Nat) (qs:List PV) (h1:(c:Int)<k) (h2:Pz qs) (e:∀(m:Bool) (rest:Sto) (n:Nat),A1 pol (phi pol codes (n+1)) 72 m [.h 0,.v (.int k)] (.list ps::rest)=.ok (.v (.int c),.list qs::rest)):Coin ps k
theorem A3n{qs:List PV}{x:PV}(h:(qs++[x]).length≤4096):Ih .pop (.h 0) [] (.list (qs++[x])::rest)=some (.v x,.list qs::rest):=by
 show((qs++[x]).getLast?.bind fun x'=>if small (qs++[x]).length=true then some (Val.v x',PO.list (qs++[x]).dropLast::rest)else none)=_
 rw[List.getLast?_concat,List.dropLast_concat]
 exact if_pos (decide_eq_true h)
theorem Gy{ps:List PV}(hi:Pz ps){k:Int}(h0:0<k)(h1:k≤1000):Coin ps k:=by
 rcases List.eq_nil_or_concat ps with rfl|⟨qs,q,rfl⟩
 ·exact⟨0,[],h0,hi,fun m rest n=>Pv (row:=[some (.h 0),some (.v (.int k))]) rfl rfl rfl (Ai (σ':=.list []::rest) rfl rfl) rfl⟩
 ·rw[List.concat_eq_append]at hi⊢
  have hq:=hi.1 q (List.mem_append_right _ List.mem_cons_self)
  obtain⟨j,rfl⟩:∃j,q=.int j:=by induction q using PV.casesOn<;>first|exact hq.elim|exact⟨_,rfl⟩
  obtain⟨c,hc⟩:=Int.eq_ofNat_of_zero_le (Int.emod_nonneg j (Int.ne_of_gt h0))
  refine⟨c,qs,hc▸Int.emod_lt_of_pos j h0,⟨fun x hx=>hi.1 x (List.mem_append_left _ hx),V4 hi.2⟩,fun m rest n=>?_⟩
  have e1:cmpP .eq (.lst (qs++[.int j])) (.lst [])=some false:=by induction qs using List.casesOn<;>rfl
  have e3:∀τ,binP .mod false (.int j) (.int k) τ=some (.v (.int (j%k)),τ):=fun τ=>if_pos (by rw[decide_eq_true h0,decide_eq_true h1];rfl)
  rw[←hc]
  exact Pv (row:=[some (.h 0),some (.v (.int k))]) rfl rfl rfl (A6 (P7 (v:=.h 0) (As rfl rfl) rfl rfl rfl e1) (Aa (D2 (G3 (v:=.h 0) (As rfl rfl) rfl rfl rfl rfl (A3n hi.2)) (A0 rfl) (e3 _)))) rfl
noncomputable def Bh(r:PV):Prop:=∃a b c,r=.tup [a,b,.int c]∧KI a∧LI b∧0≤c∧c<50
noncomputable def Vv(c:Nat):PV:=if(c:Int)=3 then .none else .int c
theorem A3q{c:Nat}(h:(c:Int)<4):KI (Vv c):=by
 have h:=Int.ofNat_lt.mp (show(c:Int)<((4:Nat):Int)from h)
 match c,h with
 |0,_=>exact .z0
 |1,_=>exact .z1
 |2,_=>exact .z2
 |3,_=>exact .none
 |c+4,h=>exact absurd h (Nat.not_lt.mpr (Nat.le_add_left 4 c))
theorem A3p{c:Nat}(h:(c:Int)<2):∃ch,subP (.str [109,110]) (.int c)=some (.str ch)∧LI (.str ch):=by
 have h:=Int.ofNat_lt.mp (show(c:Int)<((2:Nat):Int)from h)
 match c,h with
 |0,_=>exact⟨[109],rfl,.m⟩
 |1,_=>exact⟨[110],rfl,.n⟩
 |c+2,h=>exact absurd h (Nat.not_lt.mpr (Nat.le_add_left 2 c))
theorem Aaf{c:Nat}(h:getV ρ 0 4=some (.v (.int c))):ev pol Φ ρ false (.ite (.cmp .eq (.var 0 4) (.cst (.int (3)))) (.cst .none) (.var 0 4)) σ=.ok (.v (Vv c),σ):=by
 unfold Vv
 by_cases hc:(c:Int)=3
 ·rw[if_pos hc];exact El (D6 (A0 h) rfl (congrArg some (decide_eq_true hc))) rfl
 ·rw[if_neg hc];exact Co (D6 (A0 h) rfl (congrArg some (decide_eq_false hc))) (A0 h)
noncomputable abbrev rwB:CSs:=(.cons (.asg 4 false (.callF 72 (.cons (.var 0 0) (.cons (.cst (.int (4))) .nil)))) (.cons (.expr (.meth .append (.var 0 2) (.cons (.tupE (.cons (.ite (.cmp .eq (.var 0 4) (.cst (.int (3)))) (.cst .none) (.var 0 4)) (.cons (.sub (.cst (.str [109,110])) (.callF 72 (.cons (.var 0 0) (.cons (.cst (.int (2))) .nil)))) (.cons (.callF 72 (.cons (.var 0 0) (.cons (.cst (.int (50))) .nil))) .nil)))) .nil))) .nil))
noncomputable abbrev rwW(many k:Nat)(z w:Option Val):PEnv:=[[some (.h 0),some (.v (.int many)),some (.h (k+1)),z,w]]
theorem Sf{x y:PO}:(y::(rest++[x]))[rest.length+1]?=some x:=Cv
inductive RwT(many:Nat)(rest:Sto)(ps acc:List PV):Prop
 |mk (r:PV) (qs:List PV) (w:Option Val) (h1:Bh r) (h2:Pz qs) (e:∀(x:PV) (z w0:Option Val) (n:Nat),exs pol (phi pol codes (n+1)) rwB (setV (rwW many rest.length z w0) 3 (.v x)) (.list ps::(rest++[.list acc]))=.ok (.next,rwW many rest.length (some (.v x)) w,.list qs::(rest++[.list (acc++[r])]))):RwT many rest ps acc
theorem A3h{many:Nat}{ps acc:List PV}(hi:Pz ps)(ha:acc.length≤4096):RwT many rest ps acc:=by
 obtain⟨c1,q1,b1,i1,e1⟩:=Gy hi (k:=4) (by decide) (by decide)
 obtain⟨c2,q2,b2,i2,e2⟩:=Gy i1 (k:=2) (by decide) (by decide)
 obtain⟨c3,q3,b3,i3,e3⟩:=Gy i2 (k:=50) (by decide) (by decide)
 obtain⟨ch,hs1,hs2⟩:=A3p b2
 refine⟨.tup [Vv c1,.str ch,.int c3],q3,some (.v (.int c1)),⟨_,_,_,rfl,A3q b1,hs2,Int.natCast_nonneg _,b3⟩,i3,fun x z w0 n=>?_⟩
 refine(A5 (A2 (A7 (As (y:=.h 0) rfl rfl) (A3 rfl)) (e1 false _ n)) (Af (Vr (As rfl (Er Sf)) Sf (Fd (A7 (Aaf rfl) (A7 (Aj (v:=.v (.str [109,110])) rfl (A2 (A7 (As (y:=.h 0) rfl rfl) (A3 rfl)) (e2 false _ n)) rfl hs1) (A3 (A2 (A7 (As (y:=.h 0) rfl rfl) (A3 rfl)) (e3 false _ n))))) rfl) Sf ha) rfl)).trans ?_
 exact congrArg (fun τ=>Res.ok (Fl.next,_,PO.list q3::τ)) Es
inductive RwL(many:Nat)(rest:Sto)(ps acc xs:List PV):Prop
 |mk (rows qs:List PV) (h1:rows.length=acc.length+xs.length) (h2:∀r∈rows,Bh r) (h3:Pz qs) (e:∀(z w:Option Val) (n:Nat),∃z' w',forB pol (phi pol codes (n+1)) 3 rwB xs (rwW many rest.length z w) (.list ps::(rest++[.list acc]))=.ok (.next,rwW many rest.length z' w',.list qs::(rest++[.list rows]))):RwL many rest ps acc xs
theorem A3i{many:Nat}:∀(xs ps acc:List PV),acc.length+xs.length≤4096→Pz ps→(∀r∈acc,Bh r)→RwL many rest ps acc xs:=by
 intro xs
 induction xs with
 |nil=>exact fun ps acc J hi ha=>⟨acc,ps,rfl,ha,hi,fun z w n=>⟨z,w,rfl⟩⟩
 |cons x xs ih=>
  intro ps acc hl hi ha
  obtain⟨r,qs,w1,h1,h2,e⟩:=A3h (many:=many) (rest:=rest) hi (Hb hl)
  have hn:(acc++[r]).length+xs.length=acc.length+(x::xs).length:=by rw[List.length_append];exact Nat.add_right_comm acc.length 1 xs.length
  obtain⟨rows,ps',r1,r2,r3,r4⟩:=ih qs (acc++[r]) (Nat.le_trans (Nat.le_of_eq hn) hl) h2 (fun y hy=>(List.mem_append.mp hy).elim (ha y) fun q=>List.mem_singleton.mp q▸h1)
  refine⟨rows,ps',r1.trans hn,r2,r3,fun z w n=>?_⟩
  obtain⟨z',w',r4⟩:=r4 (some (.v x)) w1 n
  exact⟨z',w',Bk (e x z w n) r4⟩
inductive Rows(ps:List PV)(rest:Sto)(many:Nat):Prop
 |mk (rows qs:List PV) (h1:rows.length=many) (h2:∀r∈rows,Bh r) (h3:Pz qs) (e:∀(m:Bool) (n:Nat),A1 pol (phi pol codes (n+2)) 73 m [.h 0,.v (.int many)] (.list ps::rest)=.ok (.h (rest.length+1),.list qs::(rest++[.list rows]))):Rows ps rest many
theorem Z8{ps:List PV}(hi:Pz ps)(rest:Sto)(many:Nat)(hm:many≤4096):Rows ps rest many:=by
 obtain⟨rows,qs,h1,h2,h3,e⟩:=A3i (many:=many) (rest:=rest) (rngI many) ps [] (Nat.le_trans (Nat.le_of_eq (by rw[List.length_nil,Nat.zero_add,D0])) hm) hi (fun r hr=>nomatch hr)
 refine⟨rows,qs,h1.trans (by rw[List.length_nil,Nat.zero_add,D0]),h2,h3,fun m n=>?_⟩
 obtain⟨z,w,e⟩:=e none none n
 exact(Pv (row:=[some (.h 0),some (.v (.int many)),none,none,none]) rfl rfl rfl (A5 (v:=.h (rest.length+1)) rfl (Am (Au (A3 (A0 rfl)) rfl) rfl (B5 hm) e (Aa (As rfl (Er Sf))))) (Er Sf))
end
end Mine.Internal
namespace Mine.Internal
open PySem
section
variable {pol0:Pol} {Φ:Phi} {ρ:PEnv} {σ σ' rest:Sto} {m:Bool} {n:Nat} {k i a:PV} {xs ys cols names rl:List PV} {kd:Cs} {L n1 n2:Nat} {vs:List PV} {x1 x2 x3 y1 y2 y3:List PV} {ax ay:Bool} {R:PV}
noncomputable def absP(x:PV):PV:=(pInt x fun i=>some (.int i.natAbs)).getD (.int 0)
theorem A3f(hi:∀x∈xs,W4 x)(hl:xs.length≤4096):∃ps,Pz ps∧∀n,A1 pol (phi pol codes (n+1)) 71 true [.v (.lst xs)] []=.ok (.h 0,[.list ps]):=by
 have l1:(xs.take 50).length≤4096:=Nat.le_trans (List.length_take_le ..) (by decide)
 have l2:((xs.take 50).map absP).length≤4096:=Nat.le_trans (Nat.le_of_eq (List.length_map _)) l1
 refine⟨((xs.take 50).map absP).reverse,⟨fun x hx=>?_,Nat.le_trans (Nat.le_of_eq List.length_reverse) l2⟩,fun n=>?_⟩
 ·obtain⟨y,hy,rfl⟩:=List.mem_map.mp (List.mem_reverse.mp hx)
  have:=hi y (List.mem_of_mem_take hy)
  induction y using PV.casesOn<;>first|exact this.elim|trivial
 ·refine Jy (σ:=[]) (row:=[some (.v (.lst xs))]) rfl rfl rfl rfl (Aa (A7h (Aq (m:=false) (Ll (A0 rfl) rfl (if_pos ?_)) rfl rfl l1 (Ax absP fun x hx=>?_)) l2)) rfl
  ·exact decide_eq_true hl
  ·have:=hi x (List.mem_of_mem_take hx)
   induction x using PV.casesOn<;>first|exact this.elim|rfl
noncomputable def c0(x:PV):PV:=(pTup x fun l=>lC l fun a J=>some a).getD .none
noncomputable def c1(x:PV):PV:=(pTup x fun l=>lC l fun J l=>lC l fun a J=>some a).getD .none
noncomputable def c2(x:PV):PV:=(pTup x fun l=>lC l fun J l=>lC l fun J l=>lC l fun a J=>some a).getD .none
theorem To{es:CEs}{vs:List Val}{σ1:Sto}(h:evs pol (phi pol codes (n+1)) ρ es σ=.ok (vs,σ1))(h2:frzs σ1 vs=some ([k,i],σ')):ev pol (phi pol codes (n+1)) ρ false (.callC 0 es) σ=.ok (.v (.vec k i .none),σ'++[.froz (.vec k i .none)]):=
 (Res.bind_at (f:=Qg pol (phi pol codes (n+1)) 0 false) h).trans (Sn.trans ((congrArg (kCls pol (phi pol codes (n+1)) 0 false) h2).trans A86))
theorem Xg{β:Type}(P:List PV)(t:PV→β):(List.range P.length).map (fun i=>t (P.getD i .none))=P.map t:=by
 refine List.ext_getElem (by rw[List.length_map,List.length_map,List.length_range]) fun i h1 h2=>?_
 rw[List.length_map]at h2
 rw[List.getElem_map,List.getElem_map,List.getElem_range,List.getD_eq_getElem?_getD,List.getElem?_eq_getElem h2];rfl
theorem Dp{rows:List PV}(hr:∀r∈rows,Bh r)(hl:rows.length≤4){a b c:PV}:A1 pol (phi pol codes (n+4)) 74 false [.v (.lst rows),.v (.lst [a,b,c])] σ=.ok (.v (fr3 (rows.map c0) (rows.map c1) (rows.map c2) [a,b,c] rows.length),σ):=by
 refine A4 (row:=[some (.v (.lst rows)),some (.v (.lst [a,b,c])),none]) (x:=fr3 (rows.map c0) (rows.map c1) (rows.map c2) [a,b,c] rows.length) rfl rfl rfl rfl ?_
 have hl4:=Nat.le_trans hl (show 4≤4096 by decide)
 have pr:=fun σ=>Hi (n:=n) (σ:=σ) (L:=rows.length) (Nat.le_trans hl (by decide))
 have nf:=fun σ=>Jo (n:=n) (σ:=σ) (cols:=[icol (rows.map c0),ccol (rows.map c1),icol (rows.map c2)]) (names:=[a,b,c]) (rl:=rw1 rows.length) (fun c hc=>by
  rcases List.mem_cons.mp hc with rfl|hc
  ·trivial
  rcases List.mem_cons.mp hc with rfl|hc
  ·trivial
  cases List.mem_singleton.mp hc
  trivial) (show 3≤4096 by decide) (show 3≤4096 by decide)
 exact Ab (A5 (Ff (A7 (To (A7 rfl (A3 (Aq (A0 rfl) rfl rfl hl4 (Ax c0 fun x hx=>by obtain⟨u,v,w,rfl,_⟩:=hr x hx;rfl)))) rfl) (A7 (To (A7 rfl (A3 (Aq (A0 rfl) rfl rfl hl4 (Ax c1 fun x hx=>by obtain⟨u,v,w,rfl,_⟩:=hr x hx;rfl)))) rfl)
  (A3 (To (A7 rfl (A3 (Aq (A0 rfl) rfl rfl hl4 (Ax c2 fun x hx=>by obtain⟨u,v,w,rfl,_⟩:=hr x hx;rfl)))) rfl)))) rfl) (Aa (A2 (A7 (A0 rfl) (A7 (A0 rfl) (A3 (A2 (A3 (Bf (A0 rfl) rfl hl4)) (pr _))))) (nf _)))) rfl
theorem E6{rows:List PV}(hr:∀r∈rows,Bh r):Cl3 rows.length (rows.map c0) (rows.map c1) (rows.map c2)where
 k:=fun x hx=>by obtain⟨r,h,rfl⟩:=List.mem_map.mp hx;obtain⟨u,v,w,rfl,h1,h2,_⟩:=hr r h;exact h1
 l:=fun x hx=>by obtain⟨r,h,rfl⟩:=List.mem_map.mp hx;obtain⟨u,v,w,rfl,h1,h2,_⟩:=hr r h;exact h2
 lx:=List.length_map _
 ly:=List.length_map _
 l3:=List.length_map _
 i3:=fun x hx=>by obtain⟨r,h,rfl⟩:=List.mem_map.mp hx;obtain⟨u,v,w,rfl,h1,h2,_⟩:=hr r h;exact⟨w,rfl⟩
theorem A3g{P:List PV}{f1 f2 f3 f4:PV→PV}{d1 d2 d3 d4:Cs}(hP:P.length≤4000){rl:List PV}(hrl:rl.length=P.length):
 A1 pol (phi pol codes (n+1)) 76 false [.v (frm [kcol d1 (P.map f1),kcol d2 (P.map f2),kcol d3 (P.map f3),kcol d4 (P.map f4)] names rl)] σ=.ok (.v (.lst (P.map fun p=>.tup [f1 p,f2 p,f3 p,f4 p])),σ):=by
 refine A4 (row:=[some (.v (frm [kcol d1 (P.map f1),kcol d2 (P.map f2),kcol d3 (P.map f3),kcol d4 (P.map f4)] names rl)),none]) (x:=.lst (P.map fun p=>.tup [f1 p,f2 p,f3 p,f4 p])) rfl rfl rfl rfl ?_
 have h4:=Nat.le_trans hP (show 4000≤4096 by decide)
 have it:Az (.rng 0 rl.length 1)=some (rngI P.length):=by rw[hrl];exact B5 h4
 refine Ab (A5 (Bf (Al (Aj (Al (A0 rfl) rfl rfl) rfl rfl rfl) rfl rfl) rfl (Nat.le_trans (Nat.le_of_eq hrl) h4)) (Aa (Aq (Au (A3 (A0 rfl)) rfl) rfl it (Nat.le_trans (Nat.le_of_eq D0) h4)
  (Ax (fun x=>(pInt x fun i=>some ((fun p=>PV.tup [f1 p,f2 p,f3 p,f4 p]) (P.getD i.toNat .none))).getD .none) (fun x hx=>?_))))) ?_
 ·obtain⟨j,hj,rfl⟩:=C5 hx
  have sp:∀f:PV→PV,subP (.lst (P.map f)) (.int j)=some (f (P.getD j .none)):=fun f=>by rw[F8 h4 hj,List.getD_eq_getElem?_getD,List.getElem?_eq_getElem hj];rfl
  exact Au (A3 (Aq (m:=false) (Al (A0 rfl) rfl rfl) rfl rfl (show 4≤4096 by decide) (B4 (Aj (Al (A0 rfl) rfl rfl) (A0 rfl) rfl (sp f1)) (B4 (Aj (Al (A0 rfl) rfl rfl) (A0 rfl) rfl (sp f2)) (B4 (Aj (Al (A0 rfl) rfl rfl) (A0 rfl) rfl (sp f3)) (B4 (Aj (Al (A0 rfl) rfl rfl) (A0 rfl) rfl (sp f4)) rfl)))))) rfl
 ·exact congrArg (fun l=>Res.ok (PV.lst l)) (List.map_map.trans (Xg P fun p=>PV.tup [f1 p,f2 p,f3 p,f4 p]))
noncomputable def ni(x:PV):Int:=(pInt x some).getD (-1)
noncomputable def st4(x:PV):Cs:=(pStr x some).getD []
noncomputable def r4(x:PV):R4:=(pTup x fun l=>lC l fun a l=>lC l fun b l=>lC l fun c l=>l1 l fun d=>some ⟨ni a,st4 b,ni c,ni d⟩).getD ⟨0,[],0,0⟩
inductive NI:PV→Prop
 |none:NI .none
 |int (i:Int):NI (.int i)
noncomputable def Row4(r:PV):Prop:=∃a b c d,r=.tup [a,.str b,c,d]∧NI a∧NI c∧NI d
theorem Zd{x:PV}{xs:List PV}:Ek (x::xs)=(Ze x).bind fun r=>(Ek xs).map (r::·):=rfl
theorem Xd(rs:List R4):Ek (rs.map R4.pv)=some rs:=by
 induction rs with
 |nil=>
  exact rfl
 |cons r rs ih=>
  rw[List.map_cons,Zd,ih];rfl
@[simp] theorem Wx:Z1 m σ (.lst xs)=if xs.length<64 then(Ek xs).map fun rs=>mk m ((Do rs).map R4.pv) σ else none:=rfl
theorem A06{e:CE}{x:PV}(h:NI x)(he:ev pol Φ ρ false e σ=.ok (.v x,σ)):ev pol Φ ρ false (.ite (.cmp .is e (.cst .none)) (.negE (.cst (.int (1)))) e) σ=.ok (.v (.int (ni x)),σ):=by
 cases h
 ·exact El (Ag he rfl rfl) rfl
 ·exact Co (Ag he rfl rfl) he
theorem Z6{rows:List PV}(hr:∀r∈rows,Row4 r)(hl:rows.length<64):A1 pol (phi pol codes (n+1)) 77 false [.v (.lst rows)] σ=.ok (.v (.lst ((Do (rows.map r4)).map R4.pv)),σ):=by
 have e:rows.map (fun x=>(r4 x).pv)=(rows.map r4).map R4.pv:=(List.map_map (f:=r4) (g:=R4.pv)).symm
 have hs:∀τ,Z1 false τ (.lst (rows.map fun x=>(r4 x).pv))=some (.v (.lst ((Do (rows.map r4)).map R4.pv)),τ):=fun τ=>by
  rw[e,Wx,if_pos (by rw[List.length_map,List.length_map];exact hl),Xd];rfl
 refine A4 (row:=[some (.v (.lst rows)),none,none]) (x:=.lst ((Do (rows.map r4)).map R4.pv)) rfl rfl rfl rfl (Ab (A5 (v:=.h 0) rfl (Am (A0 rfl) rfl rfl (M9 (fun z=>[[some (.v (.lst rows)),some (.h 0),z]]) (fun x=>(r4 x).pv) (fun pre z x post e=>?_)) (Aa (Au (A3 (As rfl rfl)) (hs _))))) rfl)
 have hp:=Nat.le_trans (Nat.le_of_eq (List.length_map fun x=>(r4 x).pv)) (Fi e (Nat.le_trans (Nat.le_of_lt hl) (show 64≤4096 by decide)))
 obtain⟨a,b,c,d,rfl,h1,h2,h3⟩:=hr x (by rw[e];exact List.mem_append_right _ List.mem_cons_self)
 exact Af (B2 (As rfl rfl) rfl (En (Ff (A7 (A06 h1 (Aj (A0 rfl) rfl rfl rfl)) (A3 (Aj (A0 rfl) rfl rfl rfl))) rfl) (Aq (m:=false) (Tn (A0 rfl) rfl rfl) rfl rfl (show 2≤4096 by decide) (B4 (A06 h2 (A0 rfl)) (B4 (A06 h3 (A0 rfl)) rfl))) rfl) hp) rfl
end
end Mine.Internal
namespace Mine.Internal
open PySem
section
variable {pol0:Pol} {Φ:Phi} {ρ:PEnv} {σ σ' rest:Sto} {m:Bool} {n:Nat} {k i a:PV} {xs ys cols names rl:List PV} {kd:Cs} {L n1 n2:Nat} {vs:List PV} {x1 x2 x3 y1 y2 y3:List PV} {ax ay:Bool} {R:PV}
noncomputable def ky(r:PV):Cs:=rk (c0 r) (c1 r)
noncomputable def KIs:List PV:=[.none,.int 0,.int 1,.int 2]
noncomputable def LIs:List PV:=[.str [109],.str [110]]
theorem A7f:∀a∈KIs,∀b∈LIs,∀c∈KIs,∀d∈LIs,eqPd 3 (.tup [a,b]) (.tup [c,d])=some (decide (rk a b=rk c d))∧eqP (.tup [a,b]) (.tup [c,d])=some (decide (rk a b=rk c d)):=by decide+kernel
theorem KI.mem{a:PV}(h:KI a):a∈KIs:=by
 cases h
 ·exact .head _
 ·exact .tail _ (.head _)
 ·exact .tail _ (.tail _ (.head _))
 ·exact .tail _ (.tail _ (.tail _ (.head _)))
theorem LI.mem{a:PV}(h:LI a):a∈LIs:=by
 cases h
 ·exact .head _
 ·exact .tail _ (.head _)
theorem A5h{a b c d:PV}(ha:KI a)(hb:LI b)(hc:KI c)(hd:LI d):eqPd 3 (.tup [a,b]) (.tup [c,d])=some (decide (rk a b=rk c d))∧eqP (.tup [a,b]) (.tup [c,d])=some (decide (rk a b=rk c d)):=
 A7f a ha.mem b hb.mem c hc.mem d hd.mem
noncomputable def mates(second:List PV)(one:PV):List PV:=second.filter fun o=>decide (ky o=ky one)
theorem Nr{second:List PV}{x y:PV}(h:y∈mates second x):y∈second:=(List.mem_filter.mp h).1
noncomputable def dA(second:List PV)(one:PV):List PV:=(mates second one).map fun o=>.tup [c0 one,c1 one,c2 one,c2 o]
noncomputable def dB(second:List PV)(l:Bool)(one:PV):List PV:=if(mates second one).isEmpty&&l then[.tup [c0 one,c1 one,c2 one,.none]]else[]
noncomputable def dC(first:List PV)(r:Bool)(o:PV):List PV:=if r&& !decide (ky o∈first.map ky)then[.tup [c0 o,c1 o,.none,c2 o]]else[]
noncomputable def due(first second:List PV)(l r:Bool):List PV:=first.flatMap (fun x=>dA second x++dB second l x)++second.flatMap (dC first r)
noncomputable def key2(r:PV):PV:=.tup [c0 r,c1 r]
theorem A43{first:List PV}(h:∀r∈first,Bh r){o:PV}(ho:Bh o):memP (key2 o) (first.map key2)=some (decide (ky o∈first.map ky)):=by
 induction first with
 |nil=>rfl
 |cons x xs ih=>
  have ih':=ih fun r hr=>h r (List.mem_cons_of_mem _ hr)
  obtain⟨u,v,w,rfl,hu,hv,_⟩:=h x (List.mem_cons_self ..)
  obtain⟨u',v',w',rfl,hu',hv',_⟩:=ho
  refine(congrArg (or2 _) ih').trans ((congrArg (fun o=>or2 o _) (A5h hu hv hu' hv').2).trans (congrArg some ?_))
  rw[Bool.eq_iff_iff,Bool.or_eq_true,decide_eq_true_iff,decide_eq_true_iff,decide_eq_true_iff,List.map_cons,List.mem_cons]
  exact or_congr_left eq_comm
theorem A53{second:List PV}(h2:second.length≤4)(l:Bool)(x:PV):(dA second x++dB second l x).length≤5:=by
 have h:(dA second x).length≤4:=Nat.le_trans (Nat.le_of_eq (List.length_map _)) (Nat.le_trans (List.length_filter_le _ _) h2)
 have h1:(dB second l x).length≤1:=by
  unfold dB;split
  ·exact Nat.le_refl 1
  ·exact Nat.zero_le 1
 rw[List.length_append]
 exact Nat.add_le_add h h1
theorem A8x{first:List PV}(r:Bool)(x:PV):(dC first r x).length≤1:=by
 unfold dC;split
 ·exact Nat.le_refl 1
 ·exact Nat.zero_le 1
theorem Mc{first second:List PV}(h1:first.length≤4)(h2:second.length≤4){l:Bool}:(first.flatMap fun x=>dA second x++dB second l x).length≤20:=Nat.le_trans (H5 _ 5 first fun x J=>A53 h2 l x) (Nat.mul_le_mul_right 5 h1)
theorem Si{first second:List PV}(h2:second.length≤4){r:Bool}:(second.flatMap (dC first r)).length≤4:=Nat.le_trans (H5 _ 1 second fun x J=>A8x r x) (Nat.mul_le_mul_right 1 h2)
theorem Pt{first second:List PV}(h1:first.length≤4)(h2:second.length≤4){l r:Bool}:(due first second l r).length≤24:=by
 unfold due
 rw[List.length_append]
 exact Nat.add_le_add (Mc h1 h2) (Si h2)
noncomputable abbrev duR(first second:List PV)(l r:Bool)(one other mt:Option Val):PEnv:=[[some (.v (.lst first)),some (.v (.lst second)),some (.v (.bool l)),some (.v (.bool r)),some (.h 0),one,other,mt]]
theorem A8u:eqP (.lst xs) (.lst [])=some xs.isEmpty:=by cases xs<;>rfl
theorem A0c{second:List PV}(hs:∀r∈second,Bh r){one:PV}(ho:Bh one){row:List (Option Val)}{τ:Sto}(hrow:getV [row] 0 5=some (.v one)):Gr pol Φ (.var 0 0) (.cons (.cmp .eq (.slcTo (.var 0 0) (.cst (.int (2)))) (.slcTo (.var 1 5) (.cst (.int (2))))) .nil) 0 [row] second [] τ=.ok (mates second one,τ):=by
 refine(Ig (fun o=>decide (ky o=ky one)) (fun x=>x) (fun x hx=>?_) fun x hx J=>rfl).trans (by rw[List.nil_append,List.map_id'];rfl)
 obtain⟨u,v,w,rfl,hu,hv,_⟩:=hs x hx
 obtain⟨u',v',w',rfl,hu',hv',_⟩:=ho
 exact A64 (D6 (Ll (A0 rfl) rfl rfl) (Ll (A0 hrow) rfl rfl) (A5h hu hv hu' hv').2)
noncomputable abbrev duX:CSs:=(.cons (.expr (.meth .append (.var 0 4) (.cons (.bin .add (.var 0 5) (.tupE (.cons (.sub (.var 0 6) (.cst (.int (2)))) .nil))) .nil))) .nil)
noncomputable abbrev duY:CSs:=(.cons (.ifS (.boolE true (.cons (.cmp .eq (.var 0 7) (.lstE .nil)) (.cons (.var 0 2) .nil))) (.cons (.expr (.meth .append (.var 0 4) (.cons (.bin .add (.var 0 5) (.tupE (.cons (.cst .none) .nil))) .nil))) .nil) .nil) .nil)
noncomputable abbrev duP:CSs:=(.cons (.asg 7 false (.comp (.var 0 0) (.var 0 1) (.cons (.cmp .eq (.slcTo (.var 0 0) (.cst (.int (2)))) (.slcTo (.var 1 5) (.cst (.int (2))))) .nil) 0)) (.cons (.forS 6 (.var 0 7) duX) duY))
noncomputable abbrev duQ:CSs:=(.cons (.ifS (.boolE true (.cons (.var 0 3) (.cons (.cmp .notIn (.slcTo (.var 0 6) (.cst (.int (2)))) (.comp (.slcTo (.var 0 0) (.cst (.int (2)))) (.var 0 0) .nil 0)) .nil))) (.cons (.expr (.meth .append (.var 0 4) (.cons (.bin .add (.slcTo (.var 0 6) (.cst (.int (2)))) (.tupE (.cons (.cst .none) (.cons (.sub (.var 0 6) (.cst (.int (2)))) .nil)))) .nil))) .nil) .nil) .nil)
variable {first second:List PV} {l r:Bool}
theorem A50(hs:∀r∈second,Bh r)(h2:second.length≤4){acc:List PV}(ha:acc.length≤20){x:PV}(hx:Bh x){z ot mv:Option Val}:∃ot' mv',exs pol (phi pol codes n) duP (setV (duR first second l r z ot mv) 5 (.v x)) [.list acc]=.ok (.next,duR first second l r (some (.v x)) ot' mv',[.list (acc++(dA second x++dB second l x))]):=by
 have hm4:(mates second x).length≤4:=Nat.le_trans (List.length_filter_le _ _) h2
 have hA:(acc++dA second x).length≤4096:=by rw[List.length_append];exact Nat.le_trans (Nat.add_le_add ha (Nat.le_trans (Nat.le_of_eq (List.length_map _)) hm4)) (by decide)
 have hx':=hx
 obtain⟨u,v,w,rfl,hu,hv,_⟩:=hx
 have inner:=J9 (Φ:=phi pol codes n) (i:=6) (b:=duX) (xs:=mates second (.tup [u,v,.int w]))
  (fun acc=>[.list acc]) (fun z=>duR first second l r (some (.v (.tup [u,v,.int w]))) z (some (.v (.lst (mates second (.tup [u,v,.int w])))))) (fun o=>[.tup [u,v,.int w,c2 o]]) acc
  (fun pre2 z2 y post2 e2=>by
   obtain⟨u2,v2,w2,rfl,_⟩:=hs y (Nr (show y∈mates second _ from by rw[e2];exact List.mem_append_right _ List.mem_cons_self))
   refine Af (B2 (As rfl rfl) rfl (D2 (A0 rfl) (Fd (A3 (Aj (A0 rfl) rfl rfl rfl)) rfl) rfl) ?_) rfl
   rw[List.length_append,fm1,List.length_map]
   exact Nat.le_trans (Nat.add_le_add ha (Fi e2 hm4)) (by decide)) (z:=ot)
 rw[show(acc++(mates second (.tup [u,v,.int w])).flatMap fun o=>[PV.tup [u,v,.int w,c2 o]])=acc++dA second (.tup [u,v,.int w]) by rw[fm1];rfl]at inner
 refine⟨Ch ot (mates second (.tup [u,v,.int w])),some (.v (.lst (mates second (.tup [u,v,.int w])))),A5 (Aq (A0 rfl) rfl rfl (Nat.le_trans h2 (by decide)) (A0c hs hx' rfl)) (Am (A0 rfl) rfl rfl inner ?_)⟩
 rw[←List.append_assoc]
 unfold dB
 have eq:=D6 (pol:=pol) (Φ:=phi pol codes n) (m:=false) (z:=(mates second (.tup [u,v,.int w])).isEmpty) (ρ:=duR first second l r (some (.v (.tup [u,v,.int w]))) (Ch ot (mates second (.tup [u,v,.int w]))) (some (.v (.lst (mates second (.tup [u,v,.int w])))))) (σ:=[.list (acc++dA second (.tup [u,v,.int w]))]) (a:=.var 0 7) (b:=.lstE .nil) (A0 rfl) rfl A8u
 cases hem:(mates second (.tup [u,v,.int w])).isEmpty with
 |false=>rw[hem]at eq;exact A6 (Em eq) (by rw[Bool.false_and,if_neg Bool.false_ne_true,List.append_nil];rfl)
 |true=>
  rw[hem]at eq
  induction l using Bool.casesOn with
  |false=>exact A6 (Di eq (A0 rfl)) (by rw[Bool.and_false,if_neg Bool.false_ne_true,List.append_nil];rfl)
  |true=>exact Ai (Di eq (A0 rfl)) (B8 (Af (B2 (As rfl rfl) rfl (D2 (A0 rfl) rfl rfl) hA) rfl) rfl)
theorem A1t(hf:∀r∈first,Bh r)(h1:first.length≤4){s:List PV}(hs4:s.length≤4096){x:PV}(hx:Bh x){y z0 w:Option Val}:exs pol (phi pol codes n) duQ (setV (duR first second l r y z0 w) 6 (.v x)) [.list s]=.ok (.next,duR first second l r y (some (.v x)) w,[.list (s++dC first r x)]):=by
 have mk:=A43 hf hx
 obtain⟨u,v,w0,rfl,hu,hv,_⟩:=hx
 induction r using Bool.casesOn with
 |false=>exact A6 (Em (A0 rfl)) (by rw[show dC first false (.tup [u,v,.int w0])=[]from rfl,List.append_nil];rfl)
 |true=>
  have cd:=fun z (h:cmpP .notIn (key2 (.tup [u,v,.int w0])) (.lst (first.map key2))=some z)=>Di (pol:=pol) (Φ:=phi pol codes n) (m:=false) (ρ:=setV (duR first second l true y z0 w) 6 (.v (.tup [u,v,.int w0]))) (σ:=[.list s]) (a:=.var 0 3) (b:=.cmp .notIn (.slcTo (.var 0 6) (.cst (.int (2)))) (.comp (.slcTo (.var 0 0) (.cst (.int (2)))) (.var 0 0) .nil 0)) (A0 rfl) (Ag (Ll (A0 rfl) rfl rfl) (Aq (m:=false) (A0 rfl) rfl rfl (Nat.le_trans h1 (by decide)) (Ax key2 fun x hx=>by obtain⟨u,v,w,rfl,_⟩:=hf x hx;rfl)) h)
  unfold dC
  by_cases q:ky (.tup [u,v,.int w0])∈first.map ky
  ·rw[decide_eq_true q]at mk⊢
   exact A6 (cd false (congrArg (Option.map (!·)) mk)) (by rw[show(if(true&& !true)=true then _ else([]:List PV))=[]from rfl,List.append_nil];rfl)
  ·rw[decide_eq_false q]at mk⊢
   exact Ai (cd true (congrArg (Option.map (!·)) mk)) (B8 (Af (B2 (As rfl rfl) rfl (D2 (Ll (A0 rfl) rfl rfl) (Fd (A7 rfl (A3 (Aj (A0 rfl) rfl rfl rfl))) rfl) rfl) hs4) rfl) rfl)
theorem A9i(hf:∀r∈first,Bh r)(hs:∀r∈second,Bh r)(h1:first.length≤4)(h2:second.length≤4):
 A1 pol (phi pol codes (n+1)) 75 false [.v (.lst first),.v (.lst second),.v (.bool l),.v (.bool r)] σ=.ok (.v (.lst (due first second l r)),σ):=by
 obtain⟨s1,L1,I1⟩:=Dl (Φ:=phi pol codes n) (i:=5) (b:=duP) (xs:=first)
  (fun z (s:List PV×Option Val×Option Val)=>duR first second l r z s.2.1 s.2.2) (fun s=>[.list s.1])
  (fun pre s=>s.1=pre.flatMap fun x=>dA second x++dB second l x)
  (fun pre z s x post e hi=>by
   obtain⟨ot,mv,e1⟩:=A50 (n:=n) (first:=first) (l:=l) (r:=r) (acc:=s.1) hs h2 (by rw[hi];exact Mc (Fi e h1) h2) (hf x (by rw[e];exact List.mem_append_right _ List.mem_cons_self)) (z:=z) (ot:=s.2.1) (mv:=s.2.2)
   exact⟨(_,ot,mv),e1,by rw[hi,List.flatMap_append,List.flatMap_cons,List.flatMap_nil,List.append_nil]⟩)
  (z:=none) (s:=([],none,none)) rfl
 rw[I1]at L1
 obtain⟨s2,L2,I2⟩:=Dl (Φ:=phi pol codes n) (i:=6) (b:=duQ) (xs:=second)
  (fun z (_:List PV)=>duR first second l r (Ch none first) z s1.2.2) (fun s=>[.list s])
  (fun pre s=>s=first.flatMap (fun x=>dA second x++dB second l x)++pre.flatMap (dC first r))
  (fun pre z s x post e hi=>⟨_,A1t hf h1 (by rw[hi,List.length_append];exact Nat.le_trans (Nat.add_le_add (Mc h1 h2) (Si (Fi e h2))) (by decide)) (hs x (by rw[e];exact List.mem_append_right _ List.mem_cons_self)),by rw[hi,List.flatMap_append,List.flatMap_cons,List.flatMap_nil,List.append_nil,List.append_assoc]⟩)
  (z:=s1.2.1) (s:=first.flatMap fun x=>dA second x++dB second l x) (List.append_nil _).symm
 rw[show s2=due first second l r from I2]at L2
 exact A4 (row:=[some (.v (.lst first)),some (.v (.lst second)),some (.v (.bool l)),some (.v (.bool r)),none,none,none,none]) (x:=.lst (due first second l r)) rfl rfl rfl rfl
  (Ab (A5 (v:=.h 0) rfl (Am (A0 rfl) rfl rfl L1 (Am (A0 rfl) rfl rfl L2 (Aa (As rfl rfl))))) rfl)
end
end Mine.Internal
namespace Mine.Internal
open PySem
section
variable {first second:List PV} {l r:Bool}
theorem A3j{β:Type}{L:List PV}{F:PV→β}{G:PV→β}(h:∀(i:Nat) (hi:i<L.length),F (.int i)=G L[i]):(rngI L.length).map F=L.map G:=by
 apply List.ext_getElem
 ·simp
 ·intro i h1 h2
  have hi:i<L.length:=by simpa using h2
  simpa[rngI]using h i hi
theorem Hn{β:Type}{L:List PV}{F G:PV→List β}(h:∀(i:Nat) (hi:i<L.length),F (.int i)=G L[i]):(rngI L.length).flatMap F=L.flatMap G:=by
 rw[List.flatMap_def,List.flatMap_def,A3j h]
theorem Fs{β:Type}(p:PV→Bool)(f:PV→β):∀L:List PV,(L.filter p).map f=L.flatMap fun x=>if p x then[f x]else[]
 |[]=>rfl
 |x::L=>by
  rw[List.flatMap_cons,←Fs p f L,List.filter_cons]
  cases p x<;>rfl
theorem O0{β:Type}(f g:PV→List β):∀L:List PV,(L.flatMap f++L.flatMap g).Perm (L.flatMap fun x=>f x++g x)
 |[]=>.refl _
 |x::L=>by
  simp only[List.flatMap_cons]
  have h:=O0 f g L
  refine List.Perm.trans ?_ (h.append_left (f x++g x))
  simp only[List.append_assoc]
  refine List.Perm.append_left _ ?_
  simp only[←List.append_assoc]
  exact List.Perm.append_right _ List.perm_append_comm
theorem Rf(L:List PV):Cm L.length (L.map c0) (L.map c1)=L.map ky:=by
 apply List.ext_getElem
 ·simp[Cm]
 ·intro i h1 h2
  have hi:i<L.length:=by simpa using h2
  simp[Cm,rkAt,hi,ky]
theorem Hx{L:List PV}{i:Nat}(hi:i<L.length):B1 (L.map ky) (.int i)=ky L[i]:=by simp[B1,hi]
theorem G6{L:List PV}(f:PV→PV){i:Nat}(hi:i<L.length):Ao (L.map f) (.int i)=f L[i]:=by simp[Lq,Lo,hi]
theorem Aa8(f:PV→PV){i:Nat}(hi:i<first.length)(y:PV):kv (first.map f) (second.map f) (.tup [.int i,y])=f first[i]:=by
 show Ao (first.map f++second.map f) (.int i)=_
 rw[←List.map_append,G6 f (by simp;omega)]
 simp[List.getElem_append_left hi]
theorem Abf(f:PV→PV){i:Nat}(hi:i<second.length):kv (first.map f) (second.map f) (.tup [.none,.int i])=f second[i]:=by
 show Ao (first.map f++second.map f) (.int ((first.map f).length+(i:Int)))=_
 have e:(((first.map f).length:Int)+(i:Int))=((first.length+i:Nat):Int):=by simp
 rw[e,←List.map_append,G6 f (by simp;omega)]
 simp
noncomputable def ln(first second:List PV)(p:PV):PV:=.tup [kv (first.map c0) (second.map c0) p,kv (first.map c1) (second.map c1) p,Ao (first.map c2) (fstP p),Ao (second.map c2) (sndP p)]
theorem Xj(one:PV):(mates second one).isEmpty=decide (ky one∉second.map ky):=by
 rw[Bool.eq_iff_iff,decide_eq_true_iff,List.isEmpty_iff,mates,List.filter_eq_nil_iff,List.mem_map]
 constructor
 ·rintro h ⟨o,ho,e⟩;exact h o ho (decide_eq_true e)
 ·intro h o ho e;exact h ⟨o,ho,of_decide_eq_true e⟩
theorem Xl:((P0 first.length second.length (first.map c0) (first.map c1) (second.map c0) (second.map c1) l r).map (ln first second)).Perm (due first second l r):=by
 have h1:(Bz (first.map ky) (second.map ky)).map (ln first second)=first.flatMap (dA second):=by
  unfold Bz
  rw[List.map_flatMap,List.length_map,List.length_map]
  refine Hn fun i hi=>?_
  rw[List.map_map,Fs]
  show _=(second.filter _).map _
  rw[Fs]
  refine Hn fun j hj=>?_
  rw[Hx hi,Hx hj]
  simp only[Function.comp,ln,Aa8 _ hi,Pj,Ot,G6 _ hi,G6 _ hj]
 have h2:(Fo (first.map ky) (second.map ky) l).map (ln first second)=first.flatMap (dB second l):=by
  unfold Fo
  cases l with
  |false=>
   simp[dB]
  |true=>
   rw[if_pos rfl,List.map_map,lone,Fs,List.length_map]
   refine Hn fun i hi=>?_
   rw[Hx hi,dB,Xj,Bool.and_true]
   simp only[Function.comp,ln,Aa8 _ hi,Pj,Ot,G6 _ hi]
   rfl
 have h3:(M1 (second.map ky) (first.map ky) r).map (ln first second)=second.flatMap (dC first r):=by
  unfold M1
  induction r using Bool.casesOn with
  |false=>simp[dC]
  |true=>
   rw[if_pos rfl,List.map_map,lone,Fs,List.length_map]
   refine Hn fun i hi=>?_
   rw[Hx hi,dC,Bool.true_and,←decide_not]
   simp only[Function.comp,ln,Abf _ hi,Pj,Ot,G6 _ hi]
   rfl
 unfold P0 Bv due
 rw[Rf,Rf,List.map_append,List.map_append,h1,h2,h3]
 exact(O0 _ _ _).append_right _
end
end Mine.Internal
namespace Mine.Internal
open PySem
section
variable {Φ:Phi} {ρ:PEnv} {σ σ' σ1:Sto} {m:Bool} {n:Nat} {xs:List PV}
theorem Jh{d:Nat}{L:List PV}:(∀x∈L,eqPd d x x=some true)→all2 (eqPd d) L L=some true:=by
 induction L with
 |nil=>
  intro _
  exact rfl
 |cons x L ih=>
  intro h
  show and2 (eqPd d x x) (all2 (eqPd d) L L)=_
  rw[h x (List.mem_cons_self ..),ih fun y hy=>h y (List.mem_cons_of_mem _ hy)];rfl
theorem Ud{L:List PV}(h:∀x∈L,eqPd 3 x x=some true):eqP (.lst L) (.lst L)=some true:=Jh h
theorem X1{i:Int}:eq0 (.int i) (.int i)=some true:=congrArg some (decide_eq_true rfl)
theorem A9e{s:Cs}:eq0 (.str s) (.str s)=some true:=congrArg some (decide_eq_true rfl)
theorem NI.refl{x:PV}(h:NI x):eq0 x x=some true:=by
 cases h
 ·rfl
 ·exact X1
theorem Row4.refl{x:PV}(h:Row4 x):eqPd 3 x x=some true:=by
 obtain⟨a,b,c,d,rfl,h1,h2,h3⟩:=h
 have q:∀{y},NI y→eqPd 2 y y=some true:=fun h=>by
  cases h
  ·rfl
  ·exact X1
 refine Jh (L:=[a,.str b,c,d]) fun y hy=>?_
 simp only[List.mem_cons,List.not_mem_nil,or_false]at hy
 rcases hy with rfl|rfl|rfl|rfl
 ·exact q h1
 ·exact A9e
 ·exact q h2
 ·exact q h3
theorem R4.refl(x:R4):eqPd 3 x.pv x.pv=some true:=Jh (d:=2) (L:=[.int x.a,.str x.s,.int x.b,.int x.c]) fun y hy=>by
 rcases List.mem_cons.mp hy with rfl|hy
 ·exact X1
 rcases List.mem_cons.mp hy with rfl|hy
 ·exact A9e
 rcases List.mem_cons.mp hy with rfl|hy
 ·exact X1
 cases List.mem_singleton.mp hy
 exact X1
theorem Zc{L:Nat}:eqP (.lst (rw1 L)) (.lst (rw1 L))=some true:=Ud fun x hx=>by
 obtain⟨i,_,rfl⟩:=List.mem_map.mp hx;exact X1
theorem KI.ni{x:PV}(h:KI x):NI x:=by cases h<;>constructor
theorem Sh{first second:List PV}{l r:Bool}(hf:∀r∈first,Bh r)(hs:∀r∈second,Bh r):∀x∈due first second l r,Row4 x:=by
 have key:∀{a b:PV} (c d:PV),KI a→LI b→NI c→NI d→Row4 (.tup [a,b,c,d]):=fun c d ha hb hc hd=>by
  cases hb<;>exact⟨_,_,_,_,rfl,ha.ni,hc,hd⟩
 intro x hx
 rcases List.mem_append.mp hx with hx|hx
 ·obtain⟨one,ho,hx⟩:=List.mem_flatMap.mp hx
  obtain⟨u,v,w,rfl,hu,hv,_⟩:=hf one ho
  rcases List.mem_append.mp hx with hx|hx
  ·obtain⟨o,hm,rfl⟩:=List.mem_map.mp hx
   refine(let GG:=_;(?_:GG))
   obtain⟨u2,v2,w2,rfl,_⟩:=hs o (Nr hm)
   exact key _ _ hu hv (.int w) (.int w2)
  ·unfold dB at hx
   split at hx
   ·rw[List.mem_singleton.mp hx];exact key _ _ hu hv (.int w) .none
   ·cases hx
 ·obtain⟨o,ho,hx⟩:=List.mem_flatMap.mp hx
  obtain⟨u,v,w,rfl,hu,hv,_⟩:=hs o ho
  unfold dC at hx
  split at hx
  ·rw[List.mem_singleton.mp hx];exact key _ _ hu hv .none (.int w)
  ·cases hx
end
end Mine.Internal
namespace Mine.Internal
open PySem
section
variable {Φ:Phi} {ρ:PEnv} {σ σ' σ1:Sto} {m:Bool} {n:Nat} {xs:List PV} {first second:List PV} {l r:Bool}
noncomputable abbrev lfr(rows:List PV)(u:List PV):PV:=fr3 (rows.map c0) (rows.map c1) (rows.map c2) u rows.length
structure Told(first second:List PV)(l r:Bool)(nu nv:Cs)(R:PV):Prop where
 fr:∃cols,R=frm cols [S1 Iq,S1 Qo,S1 nu,S1 nv] (rw1 (due first second l r).length)
 ls:∃ls:List PV,ls.Perm (due first second l r)∧∀(n:Nat) (σ:Sto),A1 pol (phi pol codes (n+1)) 76 false [.v R] σ=.ok (.v (.lst ls),σ)
theorem Om(hf:∀r∈first,Bh r)(hs:∀r∈second,Bh r)(h1:first.length≤4)(h2:second.length≤4){u v nu nv s1 s2:Cs}(hu:u=Ce∨u=Ee)(hv:v=Ce∨v=Ee)(od:Bool)
 (ho1:∀(σ:Sto) (n:Nat),A1 pol (phi pol codes (n+1)) 62 false [.v (.lst (nm3 u)),.v (.lst (nm3 v)),.v byKL,.v (.str s1)] σ=.ok (.v (.lst [S1 nu]),σ))
 (ho2:∀(σ:Sto) (n:Nat),A1 pol (phi pol codes (n+1)) 62 false [.v (.lst (nm3 v)),.v (.lst (nm3 u)),.v byKL,.v (.str s2)] σ=.ok (.v (.lst [S1 nv]),σ)):
 ∃R,Told first second l r nu nv R∧KT n (lfr first (nm3 u)) (lfr second (nm3 v)) l r s1 s2 od R:=by
 obtain⟨P,hP,K⟩:=Lb (n:=n+1) (E6 hf) (E6 hs) h1 h2 hu hv l r od ho1 ho2
 have p:=(hP.map (ln first second)).trans Xl
 have hl:P.length=(due first second l r).length:=by rw[←p.length_eq,List.length_map]
 have h24:P.length≤24:=by rw[hl];exact Pt h1 h2
 refine⟨_,⟨⟨_,by rw[←hl]⟩,_,p,fun n σ=>A3g (by omega) (by simp)⟩,K⟩
theorem Hg{ls:List PV}(hf:∀r∈first,Bh r)(hs:∀r∈second,Bh r)(h1:first.length≤4)(h2:second.length≤4)(p:ls.Perm (due first second l r)):
 A1 pol (phi pol codes (n+1)) 77 false [.v (.lst ls)] σ=.ok (.v (.lst ((Do ((due first second l r).map r4)).map R4.pv)),σ):=by
 rw[Z6 (fun x hx=>Sh hf hs x (p.mem_iff.mp hx)) (by rw[p.length_eq];exact Nat.lt_of_le_of_lt (Pt h1 h2) (by decide)),Z0 (p.map r4)]
theorem Bd{a:PV}{e:CE}{x:PV}(h:ev pol Φ ρ false e σ=.ok (.v x,σ)):ev pol Φ ρ m (.tupE (.cons (.cst a) (.cons e .nil))) σ=.ok (.v (.tup [a,x]),σ):=Fd (A7 rfl (A3 h)) rfl
theorem An{f:Nat}{e:CE}{v:Val}{r:Res (Val×Sto)}(h1:ev pol Φ ρ false e σ=.ok (v,σ1))(h2:A1 pol Φ f m [v] σ1=r):ev pol Φ ρ m (.callF f (.cons e .nil)) σ=r:=A2 (A3 h1) h2
theorem Hp{e:CE}{x:PV}{a:Cs}{y:PV}(h:ev pol Φ ρ false e σ=.ok (.v x,σ))(h2:T0 (.v x) a σ=some (.v y))(h3:rawV (.v y)=false):ev pol Φ ρ m (.attr e a) σ=.ok (.v y,σ):=
 (Res.bind_at (f:=A6g a) h).trans ((congrArg (fun(o:Option Val)=>Ac (o.bind (A0p σ))) h2).trans (congrArg (fun(b:Bool)=>Ac (if b=true then none else some (Val.v y,σ))) h3))
theorem Vn{e:CE}{x k:PV}{y:PV}(h:ev pol Φ ρ false e σ=.ok (.v x,σ))(h2:subP x k=some y):ev pol Φ ρ m (.sub e (.cst k)) σ=.ok (.v y,σ):=
 (Res.bind_at (f:=A6c pol Φ (.cst k) ρ) h).trans (congrArg (fun(o:Option PV)=>Ac (o.map (kV σ))) h2)
theorem Rg{e:CE}{cols names rl:List PV}(h:ev pol Φ ρ false e σ=.ok (.v (frm cols names rl),σ)):ev pol Φ ρ m (.attr (.sub (.attr e Op) (.cst (.str Oo))) Kf) σ=.ok (.v (.lst names),σ):=
 Hp (Vn (Hp h rfl rfl) rfl) rfl rfl
theorem Zj{e:CE}{cols names rl:List PV}(h:ev pol Φ ρ false e σ=.ok (.v (frm cols names rl),σ)):ev pol Φ ρ m (.attr (.sub (.attr e Op) (.cst (.str Jm))) Kf) σ=.ok (.v (.lst rl),σ):=
 Hp (Vn (Hp h rfl rfl) rfl) rfl rfl
theorem A9m{f:Nat}{es:CEs}{vs:List Val}(h:evs pol Φ ρ es σ=.ok (vs,σ1)){y:Val×Sto}(h2:Cd pol Φ 0 false vs σ1=.ok y)(h3:f=0):ev pol Φ ρ false (.callC f es) σ=.ok y:=by
 subst h3;exact(Res.bind_at (f:=Qg pol Φ 0 false) h).trans h2
noncomputable def Tr(Φ:Phi)(c:CSs)(ρ:PEnv)(σ:Sto):Prop:=∃ρ' σ',exs pol Φ c ρ σ=.ok (.ret (.v (.bool true)),ρ',σ')
theorem Bo{i:Nat}{e:CE}{r:CSs}{v:Val}(h:ev pol Φ ρ m e σ=.ok (v,σ'))(k:Tr Φ r (setV ρ i v) σ'):Tr Φ (.cons (.asg i m e) r) ρ σ:=by
 obtain⟨a,b,k⟩:=k;exact⟨a,b,A5 h k⟩
theorem Dm{c:CE}{t r:CSs}(h:ev pol Φ ρ false c σ=.ok (.v (.bool false),σ'))(k:Tr Φ r ρ σ'):Tr Φ (.cons (.ifS c t .nil) r) ρ σ:=by
 obtain⟨a,b,k⟩:=k;exact⟨a,b,A6 h k⟩
theorem A6l{e:CE}{r:CSs}(h:ev pol Φ ρ m e σ=.ok (.v (.bool true),σ')):Tr Φ (.cons (.ret m e) r) ρ σ:=⟨_,_,Aa h⟩
noncomputable def Lg(ρ:PEnv):Prop:=∃row rs,ρ=row::rs∧row.length=21
theorem Lg.set(h:Lg ρ){i:Nat}{v:Val}:Lg (setV ρ i v):=by
 obtain⟨row,rs,rfl,hl⟩:=h;exact⟨_,_,rfl,by simpa using hl⟩
theorem Lg.self(h:Lg ρ){i:Nat}{v:Val}(hi:Nat.blt i 21=true):getV (setV ρ i v) 0 i=some v:=by
 obtain⟨row,rs,rfl,hl⟩:=h
 have:i<row.length:=by rw[hl];exact Nat.blt_eq.mp hi
 show((row.set i (some v))[i]?).join=some v
 rw[List.getElem?_set_self this];rfl
theorem Lg.ne(h:Lg ρ){i j:Nat}{v:Val}{x:Option Val}(k:getV ρ 0 j=x)(hi:Nat.beq i j=false):getV (setV ρ i v) 0 j=x:=by
 obtain⟨row,rs,rfl,hl⟩:=h
 have:i≠j:=Nat.ne_of_beq_eq_false hi
 show((row.set i (some v))[j]?).join=x
 rw[List.getElem?_set_ne this];exact k
theorem A5m{a:PV}:ev pol Φ ρ false (.lstE (.cons (.cst a) .nil)) σ=.ok (.v (.lst [a]),σ):=rfl
theorem A9l{a b:PV}:ev pol Φ ρ false (.lstE (.cons (.cst a) (.cons (.cst b) .nil))) σ=.ok (.v (.lst [a,b]),σ):=rfl
theorem Vp{a b c:PV}:ev pol Φ ρ false (.lstE (.cons (.cst a) (.cons (.cst b) (.cons (.cst c) .nil)))) σ=.ok (.v (.lst [a,b,c]),σ):=rfl
theorem A5l{a b c d:PV}:ev pol Φ ρ false (.lstE (.cons (.cst a) (.cons (.cst b) (.cons (.cst c) (.cons (.cst d) .nil))))) σ=.ok (.v (.lst [a,b,c,d]),σ):=rfl
theorem Lm{e f:CE}{x y:PV}(h:ev pol Φ ρ false e σ=.ok (.v x,σ))(h2:ev pol Φ ρ false f σ=.ok (.v y,σ)):ev pol Φ ρ false (.lstE (.cons e (.cons f .nil))) σ=.ok (.v (.lst [x,y]),σ):=Ff (A7 h (A3 h2)) rfl
theorem Vo{e f g:CE}{x y z:PV}(h:ev pol Φ ρ false e σ=.ok (.v x,σ))(h2:ev pol Φ ρ false f σ=.ok (.v y,σ))(h3:ev pol Φ ρ false g σ=.ok (.v z,σ)):ev pol Φ ρ false (.lstE (.cons e (.cons f (.cons g .nil)))) σ=.ok (.v (.lst [x,y,z]),σ):=Ff (A7 h (A7 h2 (A3 h3))) rfl
theorem A9k{e f g k:CE}{x y z w:PV}(h:ev pol Φ ρ false e σ=.ok (.v x,σ))(h2:ev pol Φ ρ false f σ=.ok (.v y,σ))(h3:ev pol Φ ρ false g σ=.ok (.v z,σ))(h4:ev pol Φ ρ false k σ=.ok (.v w,σ)):ev pol Φ ρ false (.lstE (.cons e (.cons f (.cons g (.cons k .nil))))) σ=.ok (.v (.lst [x,y,z,w]),σ):=Ff (A7 h (A7 h2 (A7 h3 (A3 h4)))) rfl
theorem t_2{a b:PV}:ev pol (phi pol codes (n+10)) ρ false (.callF 78 (.cons (.lstE (.cons (.cst a) (.cons (.cst b) .nil))) .nil)) σ=.ok (.v (ccol [a,b]),σ):=An A9l (Vk (n:=n+8) (by simp))
theorem t_1{a:PV}:ev pol (phi pol codes (n+10)) ρ false (.callF 78 (.cons (.lstE (.cons (.cst a) .nil)) .nil)) σ=.ok (.v (ccol [a]),σ):=An A5m (Vk (n:=n+8) (by simp))
theorem Rr{ps:PO}(hf:∀r∈first,Bh r)(hs:∀r∈second,Bh r)(h1:first.length≤4)(h2:second.length≤4)(g3:getV ρ 0 3=some (.h 2))(g6:getV ρ 0 6=some (.v (lfr first (nm3 Ce))))(g8:getV ρ 0 8=some (.v (lfr second nmz)))(L:Lg ρ):
 Tr (phi pol codes (n+10)) (tl 21 Sq.body) ρ [ps,.froz (.lst first),.froz (.lst second)]:=by
 refine(let GG:=_;(?_:GG))
 have x3:=E6 hf
 have y3:=E6 hs
 obtain⟨R,T,K⟩:=Om (n:=n) (l:=false) (r:=false) hf hs h1 h2 (u:=Ce) (v:=Ce) (.inl rfl) (.inl rfl) true (fun σ n=>R8) (fun σ n=>R7)
 obtain⟨cols,rfl⟩:=T.fr
 refine Bo (A2 (A7 (Aw g3) (A3 Vp)) (Dp (n:=n+6) hs h2)) ?_
 refine Bo (An (A9k (Bd (Aw (L.ne g6 rfl))) (Bd (Aw (L.self rfl))) (Bd t_2) (Bd t_2)) (G0 (n:=n) fun σ=>b_6 x3 y3 h1 h2 K)) ?_
 have L2:=L.set (i:=18) (v:=.v (lfr second (nm3 Ce)))
 have e6:=L.ne (i:=18) (v:=.v (lfr second (nm3 Ce))) g6 rfl
 have e8:=L.ne (i:=18) (v:=.v (lfr second (nm3 Ce))) g8 rfl
 refine Dm (D5 (z:=true) (Rg (Aw (L2.self rfl))) A5l rfl) ?_
 refine Dm (D5 (z:=true) (An (Vo (Bd (Aw (L2.ne e6 rfl))) (Bd (Aw (L2.ne e8 rfl))) (Bd t_1)) (Fc (n:=n) fun σ=>b_7 x3 y3 h1 h2)) C8 rfl) ?_
 refine Bo (Lm (Bd t_1) (Bd t_2)) ?_
 refine Dm (D5 (z:=true) (An (En (Lm (Bd (Aw (L2.set.ne (L2.ne e6 rfl) rfl))) (Bd (Aw (L2.set.ne (L2.ne e8 rfl) rfl)))) (Aw (L2.set.self rfl)) rfl) (Fc (n:=n) fun σ=>b_8 x3 y3 h1 h2)) C8 rfl) ?_
 exact A6l (D6 (z:=true) (An (Ff (A7 (Bd (Aw (L2.set.ne (L2.ne e6 rfl) rfl))) (A3 (Fd (A7 C8 (A3 (A9m (A7 C8 (A3 A5m)) Cw rfl))) rfl))) rfl) (Fc (n:=n) fun σ=>b_9 x3 h1)) C8 rfl)
end
end Mine.Internal
namespace Mine.Internal
open PySem
section
variable {Φ:Phi} {ρ ρ2:PEnv} {σ σ' σ1:Sto} {m:Bool} {n:Nat} {xs:List PV} {first second:List PV} {l r:Bool}
theorem nbq{k j:Nat}(h:j<k):Nat.beq k j=false:=by
 cases e:Nat.beq k j with
 |false=>rfl
 |true=>exact absurd (Nat.eq_of_beq_eq_true e) (Nat.ne_of_gt h)
theorem A2x{i:Nat}{it:CE}{b r:CSs}{R:PV}(h:ev pol Φ ρ false it σ=.ok (.v (.lst [R,R]),σ))(hb:∀ρ2,ρ2=setV ρ i (.v R)∨ρ2=setV (setV ρ i (.v R)) i (.v R)→exs pol Φ b ρ2 σ=.ok (.next,ρ2,σ))
 (k:Tr Φ r (setV (setV ρ i (.v R)) i (.v R)) σ):Tr Φ (.cons (.forS i it b) r) ρ σ:=by
 obtain⟨x,y,k⟩:=k
 exact⟨x,y,Am h rfl rfl (Bk (hb _ (.inl rfl)) (Bk (hb _ (.inr rfl)) rfl)) k⟩
theorem A2w{c:CE}{t e r:CSs}(h:ev pol Φ ρ false c σ=.ok (.v (.bool true),σ1))(h2:exs pol Φ t ρ σ1=.ok (.next,ρ2,σ'))(k:Tr Φ r ρ2 σ'):Tr Φ (.cons (.ifS c t e) r) ρ σ:=by
 obtain⟨x,y,k⟩:=k
 exact⟨x,y,Ai h (B8 h2 k)⟩
theorem A7j{i:Nat}{D:List PV}(g:getV ρ 0 i=some (.v (.lst D)))(h:D.length≤4000):
 ev pol Φ ρ m (.callB .list (.cons (.callB .range (.cons (.cst (.int 1)) (.cons (.bin .add (.callB .len (.cons (.var 0 i) .nil)) (.cst (.int 1))) .nil))) .nil)) σ=.ok (mk m (rw1 D.length) σ):=by
 have h4:D.length+1≤4096:=Nat.le_trans (Nat.succ_le_succ h) (by decide)
 exact A5k (Bf (A0 g) rfl (Nat.le_of_succ_le h4)) h4
noncomputable abbrev fl2(l r:Bool):List PV:=[.tup [S1 Br,flag l],.tup [S1 Bq,flag r]]
theorem A4d{ps:PO}(hf:∀r∈first,Bh r)(hs:∀r∈second,Bh r)(h1:first.length≤4)(h2:second.length≤4)(g2:getV ρ 0 2=some (.h 1))(g3:getV ρ 0 3=some (.h 2))(g4:getV ρ 0 4=some (.v (.bool l)))(g5:getV ρ 0 5=some (.v (.bool r)))
 (g6:getV ρ 0 6=some (.v (lfr first (nm3 Ce)))) (g7:getV ρ 0 7=some (.v (lfr second (nm3 Ee)))) (g8:getV ρ 0 8=some (.v (lfr second nmz))) (g9:getV ρ 0 9=some (.v (.lst (fl2 l r)))) (L:Lg ρ):
 Tr (phi pol codes (n+10)) (tl 9 Sq.body) ρ [ps,.froz (.lst first),.froz (.lst second)]:=by
 have x3:=E6 hf
 have y3:=E6 hs
 obtain⟨R,T,K⟩:=Om (n:=n) (l:=l) (r:=r) hf hs h1 h2 (u:=Ce) (v:=Ee) (.inl rfl) (.inr rfl) true (fun σ n=>Ky (s:=Qq)) (fun σ n=>Kx (s:=Qp))
 obtain⟨R',T',K'⟩:=Om (n:=n) (l:=l) (r:=r) hf hs h1 h2 (u:=Ce) (v:=Ee) (.inl rfl) (.inr rfl) false (fun σ n=>Ky (s:=Qq)) (fun σ n=>Kx (s:=Qp))
 obtain⟨cols,rfl⟩:=T.fr
 obtain⟨ls,p,hls⟩:=T.ls
 obtain⟨ls',p',hls'⟩:=T'.ls
 have ll:eqP (.lst ls) (.lst ls)=some true:=Ud fun x hx=>(Sh hf hs x (p.mem_iff.mp hx)).refl
 have ss:eqP (.lst ((Do ((due first second l r).map r4)).map R4.pv)) (.lst ((Do ((due first second l r).map r4)).map R4.pv))=some true:=Ud fun x hx=>by
  obtain⟨y,_,rfl⟩:=List.mem_map.mp hx;exact y.refl
 have dl:(due first second l r).length≤4000:=Nat.le_trans (Pt h1 h2) (by decide)
 generalize hR:frm cols [S1 Iq,S1 Qo,S1 Ce,S1 Ee] (rw1 (due first second l r).length)=R at K hls
 refine Bo (v:=.v R) (An (En (Lm (Bd (Aw g6)) (Bd (Aw g7))) (Aw g9) rfl) (G0 (n:=n) fun σ=>b_1 x3 y3 h1 h2 K)) ?_
 have nm:∀{ρ:PEnv} {i:Nat},getV ρ 0 i=some (.v R)→∀{σ},ev pol (phi pol codes (n+10)) ρ false (.cmp .ne (.attr (.sub (.attr (.var 0 i) Op) (.cst (.str Oo))) Kf) (.lstE (.cons (.cst (.str [107])) (.cons (.cst (.str [108])) (.cons (.cst (.str [112])) (.cons (.cst (.str [113])) .nil)))))) σ=.ok (.v (.bool false),σ):=
  fun g σ=>D5 (z:=true) (Rg (Aw (g.trans (by rw[←hR])))) A5l rfl
 have la:=L.set (i:=10) (v:=.v R)
 have a10:=L.self (i:=10) (v:=.v R) rfl
 have kp:∀{j:Nat} {x:Option Val},getV ρ 0 j=x→Nat.beq 10 j=false→getV (setV ρ 10 (.v R)) 0 j=x:=fun g h=>L.ne g h
 refine Dm (nm a10) ?_
 refine Bo (v:=.v (.lst (due first second l r))) (A2 (A7 (Aw (kp g2 rfl)) (A7 (Aw (kp g3 rfl)) (A7 (Aw (kp g4 rfl)) (A3 (Aw (kp g5 rfl)))))) (A9i (n:=n+9) hf hs h1 h2)) ?_
 generalize hA:setV ρ 10 (.v R)=ρA at la a10 kp⊢
 have lb:=la.set (i:=11) (v:=.v (.lst (due first second l r)))
 have b11:=la.self (i:=11) (v:=.v (.lst (due first second l r))) rfl
 have b10:=la.ne (i:=11) (v:=.v (.lst (due first second l r))) a10 rfl
 have kb:∀{j:Nat} {x:Option Val},getV ρ 0 j=x→Nat.beq 10 j=false→Nat.beq 11 j=false→getV (setV ρA 11 (.v (.lst (due first second l r)))) 0 j=x:=fun g h h'=>la.ne (kp g h) h'
 generalize hB:setV ρA 11 (.v (.lst (due first second l r)))=ρB at lb b11 b10 kb⊢
 refine Dm (D5 (z:=true) (An (An (Aw b10) (hls (n+9) _)) (Hg (n:=n+9) hf hs h1 h2 p)) (An (Aw b11) (Hg (n:=n+9) hf hs h1 h2 (.refl _))) ss) ?_
 refine Dm (D5 (z:=true) (Zj (Aw (b10.trans (by rw[←hR])))) (A7j b11 dl) Zc) ?_
 refine Bo (v:=.v R) (An (En (Vo (Bd (Aw (kb g7 rfl rfl))) (Bd (Aw (kb g6 rfl rfl))) (Bd t_2)) (Aw (kb g9 rfl rfl)) rfl) (G0 (n:=n) fun σ=>b_2 x3 y3 h1 h2 K)) ?_
 have lc:=lb.set (i:=12) (v:=.v R)
 have c12:=lb.self (i:=12) (v:=.v R) rfl
 have c10:=lb.ne (i:=12) (v:=.v R) b10 rfl
 have c11:=lb.ne (i:=12) (v:=.v R) b11 rfl
 have kc:∀{j:Nat} {x:Option Val},getV ρ 0 j=x→Nat.blt j 10=true→getV (setV ρB 12 (.v R)) 0 j=x:=fun g h=>by
  have h:=Nat.blt_eq.mp h
  exact lb.ne (kb g (nbq h) (nbq (Nat.lt_succ_of_lt h))) (nbq (Nat.lt_succ_of_lt (Nat.lt_succ_of_lt h)))
 generalize setV ρB 12 (.v R)=ρC at lc c12 c10 c11 kc⊢
 refine Bo (Lm (Bd t_2) (Bd t_2)) ?_
 have ld:=fun v=>lc.set (i:=13) (v:=v)
 have kd:∀v {j:Nat} {x:Option Val},getV ρC 0 j=x→Nat.beq 13 j=false→getV (setV ρC 13 v) 0 j=x:=fun v J J g h=>lc.ne g h
 refine Bo (v:=.v R) (An (En (En (Lm (Bd (Aw (kd _ (kc g6 rfl) rfl))) (Bd (Aw (kd _ (kc g8 rfl) rfl)))) (Aw (lc.self rfl)) rfl) (Aw (kd _ (kc g9 rfl) rfl)) rfl) (G0 (n:=n) fun σ=>b_3 x3 y3 h1 h2 K)) ?_
 refine A2x (R:=R) (Lm (Aw ((ld _).ne (kd _ c12 rfl) rfl)) (Aw ((ld _).self rfl))) ?_ ?_
 ·intro ρ2 hρ
  have e15:getV ρ2 0 15=some (.v R):=by
   rcases hρ with rfl|rfl
   ·exact(ld _).set.self rfl
   ·exact(ld _).set.set.self rfl
  have e10:getV ρ2 0 10=some (.v R):=by
   rcases hρ with rfl|rfl
   ·exact(ld _).set.ne ((ld _).ne (kd _ c10 rfl) rfl) rfl
   ·exact(ld _).set.set.ne ((ld _).set.ne ((ld _).ne (kd _ c10 rfl) rfl) rfl) rfl
  exact A6 (Fe (D5 (z:=true) (An (Aw e15) (hls (n+9) _)) (An (Aw e10) (hls (n+9) _)) ll) (nm e15)) rfl
 have le:=fun v=>((ld v).set (i:=14) (v:=.v R)).set (i:=15) (v:=.v R)|>.set (i:=15) (v:=.v R)
 have ke:∀v {j:Nat} {x:Option Val},getV ρC 0 j=x→Nat.blt j 13=true→getV (setV (setV (setV (setV ρC 13 v) 14 (.v R)) 15 (.v R)) 15 (.v R)) 0 j=x:=fun v j x g h=>by
  have h:=Nat.blt_eq.mp h
  have q:∀k,13≤k→Nat.beq k j=false:=fun k hk=>nbq (Nat.lt_of_lt_of_le h hk)
  exact(ld v).set.set.ne ((ld v).set.ne ((ld v).ne (kd v g (q 13 (by decide))) (q 14 (by decide))) (q 15 (by decide))) (q 15 (by decide))
 have le':=le (.v (.lst [.tup [.str [98,121,46,120],ccol [.str [107],.str [108]]],.tup [.str [98,121,46,121],ccol [.str [107,107],.str [108,108]]]]))
 have ke':=fun{j:Nat} {x:Option Val}=>@ke (.v (.lst [.tup [.str [98,121,46,120],ccol [.str [107],.str [108]]],.tup [.str [98,121,46,121],ccol [.str [107,107],.str [108,108]]]])) j x
 clear ke le kd ld
 generalize setV (setV (setV (setV ρC 13 _) 14 (.v R)) 15 (.v R)) 15 (.v R)=ρE at le' ke'⊢
 refine Bo (v:=.v R') (An (En (Vo (Bd (Aw (ke' (kc g6 rfl) rfl))) (Bd (Aw (ke' (kc g7 rfl) rfl))) (Bd (An C8 (Oy (n:=n+8) (b:=false))))) (Aw (ke' (kc g9 rfl) rfl)) rfl) (G0 (n:=n) fun σ=>b_4 x3 y3 h1 h2 (od:=false) K')) ?_
 have lf:=le'.set (i:=16) (v:=.v R')
 have kf:∀{j:Nat} {x:Option Val},getV ρC 0 j=x→Nat.blt j 13=true→getV (setV ρE 16 (.v R')) 0 j=x:=fun{j x} g h=>le'.ne (ke' g h) (nbq (Nat.lt_of_lt_of_le (Nat.blt_eq.mp h) (by decide)))
 have f16:=le'.self (i:=16) (v:=.v R') rfl
 generalize setV ρE 16 (.v R')=ρF at lf kf f16⊢
 refine Dm (D5 (z:=true) (An (An (Aw f16) (hls' (n+9) _)) (Hg (n:=n+9) hf hs h1 h2 p')) (An (Aw (kf c11 rfl)) (Hg (n:=n+9) hf hs h1 h2 (.refl _))) ss) ?_
 by_cases hlr:l=r
 ·subst hlr
  refine A2w (D6 (z:=l==l) (Aw (kf (kc g4 rfl) rfl)) (Aw (kf (kc g5 rfl) rfl)) rfl|>.trans (by rw[beq_self_eq_true])) (A5 (v:=.v R) (An (Vo (Bd (Aw (kf (kc g6 rfl) rfl))) (Bd (Aw (kf (kc g7 rfl) rfl))) (Bd (An (Aw (kf (kc g4 rfl) rfl)) (Oy (n:=n+8))))) (G0 (n:=n) fun σ=>b_5 x3 y3 h1 h2 K))
   (A6 (D5 (z:=true) (An (Aw (lf.self rfl)) (hls (n+9) _)) (An (Aw (lf.ne (kf c10 rfl) rfl)) (hls (n+9) _)) ll) rfl)) ?_
  exact Rr hf hs h1 h2 (lf.ne (kf (kc g3 rfl) rfl) rfl) (lf.ne (kf (kc g6 rfl) rfl) rfl) (lf.ne (kf (kc g8 rfl) rfl) rfl) lf.set
 ·refine Dm (D6 (z:=l==r) (Aw (kf (kc g4 rfl) rfl)) (Aw (kf (kc g5 rfl) rfl)) rfl|>.trans (by rw[beq_eq_false_iff_ne.mpr hlr])) ?_
  exact Rr hf hs h1 h2 (kf (kc g3 rfl) rfl) (kf (kc g6 rfl) rfl) (kf (kc g8 rfl) rfl) lf
end
end Mine.Internal
namespace Mine.Internal
open PySem
section
variable {ρ:PEnv} {n:Nat} {xs:List PV}
theorem Xm(hi:∀x∈xs,W4 x)(hl:xs.length≤4096):Tr (phi pol codes (n+10)) Sq.body [some (.v (.lst xs))::List.replicate 20 none] []:=by
 obtain⟨p0,i0,e0⟩:=A3f hi hl
 obtain⟨k1,p1,b1,i1,e1⟩:=Gy i0 (k:=5) (by decide) (by decide)
 have m4:∀{k:Nat},(k:Int)<5→k≤4:=fun h=>Nat.le_of_lt_succ (Int.ofNat_lt.mp (show _<((5:Nat):Int)from h))
 obtain⟨first,p2,f1,hf,i2,e2⟩:=Z8 i1 [] k1 (Nat.le_trans (m4 b1) (by decide))
 obtain⟨k3,p3,b3,i3,e3⟩:=Gy i2 (k:=5) (by decide) (by decide)
 obtain⟨second,p4,f2,hs,i4,e4⟩:=Z8 i3 [.list first] k3 (Nat.le_trans (m4 b3) (by decide))
 obtain⟨a5,p5,_,i5,e5⟩:=Gy i4 (k:=2) (by decide) (by decide)
 obtain⟨a6,p6,_,i6,e6⟩:=Gy i5 (k:=2) (by decide) (by decide)
 have h1:=Nat.le_trans (Nat.le_of_eq f1) (m4 b1)
 have h2:=Nat.le_trans (Nat.le_of_eq f2) (m4 b3)
 have hρ:Lg [some (.v (.lst xs))::List.replicate 20 none]:=⟨_,_,rfl,rfl⟩
 refine Bo (v:=.h 0) (An (Aw rfl) (e0 _)) ?_
 have g1:=hρ.self (i:=1) (v:=.h 0) rfl
 have L1:=hρ.set (i:=1) (v:=.h 0)
 generalize setV [some (.v (.lst xs))::List.replicate 20 none] 1 (.h 0)=ρ1 at g1 L1⊢
 refine Bo (v:=.h 1) (A2 (A7 (Aw g1) (A3 (A2 (A7 (Aw g1) (A3 C8)) (e1 false [] (n+9))))) (e2 false (n+8))) ?_
 have q1:=L1.ne (i:=2) (v:=.h 1) g1 rfl
 have q2:=L1.self (i:=2) (v:=.h 1) rfl
 have L2:=L1.set (i:=2) (v:=.h 1)
 refine Bo (v:=.h 2) (A2 (A7 (Aw q1) (A3 (A2 (A7 (Aw q1) (A3 C8)) (e3 false [.list first] (n+9))))) (e4 false (n+8))) ?_
 have r1:=L2.ne (i:=3) (v:=.h 2) q1 rfl
 have r2:=L2.ne (i:=3) (v:=.h 2) q2 rfl
 have r3:=L2.self (i:=3) (v:=.h 2) rfl
 have L3:=L2.set (i:=3) (v:=.h 2)
 generalize setV (setV ρ1 2 (.h 1)) 3 (.h 2)=ρ3 at r1 r2 r3 L3⊢
 refine Bo (v:=.v (.bool (decide ((a5:Int)=1)))) (D6 (A2 (A7 (Aw r1) (A3 C8)) (e5 false [.list first,.list second] (n+9))) C8 rfl) ?_
 generalize decide ((a5:Int)=1)=l
 refine Bo (v:=.v (.bool (decide ((a6:Int)=1)))) (D6 (A2 (A7 (Aw (L3.ne r1 rfl)) (A3 C8)) (e6 false [.list first,.list second] (n+9))) C8 rfl) ?_
 generalize decide ((a6:Int)=1)=r
 have L4:=L3.set (i:=4) (v:=.v (.bool l))
 have s2:=L4.ne (i:=5) (v:=.v (.bool r)) (L3.ne (i:=4) (v:=.v (.bool l)) r2 rfl) rfl
 have s3:=L4.ne (i:=5) (v:=.v (.bool r)) (L3.ne (i:=4) (v:=.v (.bool l)) r3 rfl) rfl
 have s4:=L4.ne (i:=5) (v:=.v (.bool r)) (L3.self (i:=4) (v:=.v (.bool l)) rfl) rfl
 have s5:=L4.self (i:=5) (v:=.v (.bool r)) rfl
 have L5:=L4.set (i:=5) (v:=.v (.bool r))
 generalize setV (setV ρ3 4 (.v (.bool l))) 5 (.v (.bool r))=ρ5 at s2 s3 s4 s5 L5⊢
 refine Bo (v:=.v (lfr first (nm3 Ce))) (A2 (A7 (Aw s2) (A3 Vp)) ((Ec (ps:=[.lst first,.lst (nm3 Ce)]) (σ':=[.list p6,.froz (.lst first),.list second]) rfl rfl).trans (Dp (n:=n+6) hf h1))) ?_
 refine Bo (v:=.v (lfr second (nm3 Ee))) (A2 (A7 (Aw (L5.ne s3 rfl)) (A3 Vp)) ((Ec (ps:=[.lst second,.lst (nm3 Ee)]) (σ':=[.list p6,.froz (.lst first),.froz (.lst second)]) rfl rfl).trans (Dp (n:=n+6) hs h2))) ?_
 have L6:=L5.set (i:=6) (v:=.v (lfr first (nm3 Ce)))
 have L7:=L6.set (i:=7) (v:=.v (lfr second (nm3 Ee)))
 have k7:∀{j:Nat} {x:Option Val},getV ρ5 0 j=x→Nat.blt j 6=true→getV (setV (setV ρ5 6 (.v (lfr first (nm3 Ce)))) 7 (.v (lfr second (nm3 Ee)))) 0 j=x:=fun g h=>by
  have h:=Nat.blt_eq.mp h
  exact L6.ne (L5.ne g (nbq h)) (nbq (Nat.lt_succ_of_lt h))
 have w6:=L6.ne (i:=7) (v:=.v (lfr second (nm3 Ee))) (L5.self (i:=6) (v:=.v (lfr first (nm3 Ce))) rfl) rfl
 have w7:=L6.self (i:=7) (v:=.v (lfr second (nm3 Ee))) rfl
 generalize setV (setV ρ5 6 (.v (lfr first (nm3 Ce)))) 7 (.v (lfr second (nm3 Ee)))=ρ7 at L7 k7 w6 w7⊢
 refine Bo (v:=.v (lfr second nmz)) (A2 (A7 (Aw (k7 s3 rfl)) (A3 Vp)) (Dp (n:=n+6) hs h2)) ?_
 have L8:=L7.set (i:=8) (v:=.v (lfr second nmz))
 have k8:∀{j:Nat} {x:Option Val},getV ρ7 0 j=x→Nat.blt j 8=true→getV (setV ρ7 8 (.v (lfr second nmz))) 0 j=x:=fun g h=>L7.ne g (nbq (Nat.blt_eq.mp h))
 have w8:=L7.self (i:=8) (v:=.v (lfr second nmz)) rfl
 generalize setV ρ7 8 (.v (lfr second nmz))=ρ8 at L8 k8 w8⊢
 refine Bo (v:=.v (.lst (fl2 l r))) (Lm (Bd (An (Aw (k8 (k7 s4 rfl) rfl)) (Oy (n:=n+8)))) (Bd (An (Aw (k8 (k7 s5 rfl) rfl)) (Oy (n:=n+8))))) ?_
 exact A4d (l:=l) (r:=r) hf hs h1 h2 (L8.ne (k8 (k7 s2 rfl) rfl) rfl) (L8.ne (k8 (k7 s3 rfl) rfl) rfl) (L8.ne (k8 (k7 s4 rfl) rfl) rfl) (L8.ne (k8 (k7 s5 rfl) rfl) rfl) (L8.ne (k8 w6 rfl) rfl) (L8.ne (k8 w7 rfl) rfl) (L8.ne w8 rfl) (L8.self rfl) L8.set
theorem A0i(hi:∀x∈xs,W4 x)(hl:xs.length≤4096):∃σ',phi pol codes (n+11) LAW [.v (.lst xs)] []=.ok (.v (.bool true),σ'):=by
 obtain⟨ρ',σ',h⟩:=Xm (n:=n) hi hl
 exact⟨σ',by rw[H0 (c:=Sq) (row:=some (.v (.lst xs))::List.replicate 20 none) rfl rfl,h];rfl⟩
end
end Mine.Internal
namespace Mine.Internal
open PySem PySem.W PyProof.Rows PySem.SeqAt PySem.MeetsSeq PySem.Calls
theorem Wp{W:Wd}{P:GM}{Pa:Params}{h:Heap}{ns:List Int}:∀{vs:List Value},WellAll Pa h vs (ofPys (ns.map PyData.int))→Rvs W P (ns.map PV.int) vs:=by
 induction ns with
 |nil=>
  intro vs x
  cases x;exact .nil
 |cons n ns ih=>
  intro vs x
  cases x with
  |cons a b=>cases a;exact .cons (.int _ _) (ih b)
structure Facts(K:Frag):Prop where
 f0:Ma K 0 14=true
 f1:Ma K 14 28=true
 f2:Ma K 28 42=true
 f3:Ma K 42 56=true
 f4:Ma K 56 70=true
 f5:Ma K 70 82=true
 gl:glCk K GL.gt=true
 rf:A5i K=true
 tr:A5c K=true
 at':atCk K=true
 me:meCk K=true
 mk0:mkCk K 311 301=true
 mk1:mkCk K 471 428=true
 kp:kpCk K=true
theorem Facts.fns{W:Wd}{K:Frag}(F:Facts K)(X:K.In W.base){f:Nat}{c:FC}(hc:codes f=some c):FnOK W GL (fnsL.getD f 0) c:=by
 have hf:f<82:=by
  have:=List.getElem?_eq_some_iff.mp (show Wf[f]?=some c from hc)
  obtain⟨h,_⟩:=this;exact h
 rcases Nat.lt_or_ge f 14 with h|h
 ·exact Ja X F.f0 (Nat.zero_le _) h hc
 rcases Nat.lt_or_ge f 28 with h'|h'
 ·exact Ja X F.f1 h h' hc
 rcases Nat.lt_or_ge f 42 with h2|h2
 ·exact Ja X F.f2 h' h2 hc
 rcases Nat.lt_or_ge f 56 with h3|h3
 ·exact Ja X F.f3 h2 h3 hc
 rcases Nat.lt_or_ge f 70 with h4|h4
 ·exact Ja X F.f4 h3 h4 hc
 ·exact Ja X F.f5 h4 hf hc
section
variable {prog:Program} {w:World} {K:Frag} {s:Shared} {mg mb:Str→Option Value}
noncomputable abbrev theW(prog:Program)(w:World)(K:Frag)(s:Shared):Wd:=⟨prog,w,K,s.heap,GL.cls,GL.fns⟩
theorem A4l(F:Facts K)(X:K.In s.heap)(g:s.heap.Ns mainGlobals mg)(b:s.heap.Ns builtinsNs mb)(bi:∀x:Str,x≠"__name__"→mb x=bootBuiltins x)(nl:s.heap.NoLimit)(sys:∃o,s.heap.get? sysModules=some o):GlOK (theW prog w K s) GL:=by
 obtain⟨⟨⟨⟨k1,k2⟩,k3⟩,k4⟩,k5⟩:(((fnsL.all (fun a=>keepIn K (.ref a))=true∧keepIn K (.ref 311)=true)∧keepIn K (.ref 471)=true)∧keepIn K (.ref 263)=true)∧isIn K (.ref 311) 311=true:=by
  have:=F.kp;simpa only[kpCk,Bool.and_eq_true]using this
 have mk:∀{C i:Nat},mkCk K C i=true→makesIn K C=true∧findIn K (.ref C) "__init__"=some (some (.ref i))∧typeIn K (.ref i)=some (.type "function"):=fun h=>by
  simp only[mkCk,Bool.and_eq_true,decide_eq_true_eq]at h;exact⟨h.1.1,h.1.2,h.2⟩
 refine⟨⟨sys,nl,X,rfl,k5⟩,⟨mg,mb,g,b,A65 (W:=theW prog w K s) X F.gl g bi⟩,fun a ha=>?_,rfl,rfl,fun a f ha=>?_,fun c hc=>?_,fun f hf=>?_,fun c hc=>?_⟩
 ·have:=List.all_eq_true.mp F.at' a ha
  simp only[Bool.and_eq_true]at this
  exact⟨this.1.1.1,this.1.1.2,this.1.2,this.2⟩
 ·have:=List.all_eq_true.mp F.me _ ha
  simp only[Bool.and_eq_true,decide_eq_true_eq]at this
  exact⟨this.1.1.1,this.1.1.2,this.1.2,Nat.blt_eq.mp this.2⟩
 ·match c,hc with
  |0,_=>obtain⟨a,b,c⟩:=mk F.mk0;exact⟨a,b,c,by decide⟩
  |1,_=>obtain⟨a,b,c⟩:=mk F.mk1;exact⟨a,b,c,by decide⟩
 ·have hf':f<fnsL.length:=hf
  refine List.all_eq_true.mp k1 _ ?_
  show fnsL.getD f 0∈fnsL
  rw[show fnsL.getD f 0=fnsL[f] by simp[hf']]
  exact List.getElem_mem hf'
 ·match c,hc with
  |0,_=>exact k2
  |1,_=>exact k3
  |2,_=>exact k4
theorem law_runs(F:Facts K)(X:K.In s.heap)(g:s.heap.Ns mainGlobals mg)(b:s.heap.Ns builtinsNs mb)(bi:∀x:Str,x≠"__name__"→mb x=bootBuiltins x)(nl:s.heap.NoLimit)(sys:∃mm,s.heap.Ns sysModules mm)
 {fa l:Addr} (hfa:mg "law"=some (.ref fa)) {ns:List Int} (hw:Well w.params s.heap (.ref l) (ofPy (PyData.list (ns.map PyData.int)))) (hn:ns.length≤4096) {Q:Value→Shared→Prop} {E:Value→Shared→Prop}
 (hq:∀h' tk,(∀b o,s.heap.get? b=some o→h'.get? b=some o)→Q (.bool true) {s with heap:=h',toks:=tk}):wpAny (model prog w) callerA (call (.ref fa) [.ref l]) Q E s:=by
 obtain⟨mm,so,ses,sep,hso,hsd,_⟩:=sys
 have hG:=A4l (prog:=prog) (w:=w) F X g b bi nl ⟨so,hso⟩
 have hR:=A7g (W:=theW prog w K s) X rfl rfl F.rf
 have hT:TryC (theW prog w K s):=by
  have:=F.tr
  simp only[A5c,Bool.and_eq_true,decide_eq_true_eq]at this
  exact⟨this.1.1.1.1,this.1.1.1.2,this.1.1.2,this.1.2,this.2⟩
 have hP:=A7q hG (T9 hG.ok) hR hT (codes:=codes) (fun f c hc=>F.fns X hc) 11
 obtain rfl:fa=955:=by
  have:=(A65 (W:=theW prog w K s) X F.gl g bi "law" (.ref 955) (by kernel_rfl)).1
  rcases this with q|⟨q,_⟩
  ·rw[hfa]at q;cases q;rfl
  ·rw[hfa]at q;cases q
 obtain⟨vs,ol,hws⟩:∃vs:List Value,s.heap.get? l=some (lob vs 0)∧WellAll w.params s.heap vs (ofPys (ns.map PyData.int)):=by
  refine(let GG:=_;(?_:GG))
  cases hw with
  |list a b=>exact⟨_,a,b⟩
 have hls:l≠sysModules:=by
  rintro rfl
  rw[ol]at hso;cases hso;cases hsd
 have I:Inv (theW prog w K s) (fun a=>if a=l then some (.fz (lob vs 0))else none) [] s.heap:=by
  refine⟨fun a u hu=>?_,fun a o e=>⟨e,?_⟩,if_neg (Ne.symm hls),fun env he=>nomatch he⟩
  ·split at hu
   ·rename_i e;cases hu;rw[e];exact ol
   ·cases hu
  ·split
   ·rename_i q;rw[q]at e;rw[show s.heap.get? l=some o from e]at ol;cases ol;exact .inr rfl
   ·exact .inl rfl
 obtain⟨σ',hL⟩:=A0i (n:=0) (xs:=ns.map PV.int) (fun x hx=>by obtain⟨i,_,rfl⟩:=List.mem_map.mp hx;trivial) (by simpa using hn)
 have call:=hP 81 [.v (.lst (ns.map PV.int))] [.ref l] [] _ [] [] callerA s (by decide) ⟨rfl,rfl,by decide,by decide⟩ I ⟨rfl,fun n a po e=>by simp at e⟩ (.cons (.v (.lst (if_pos rfl) (Wp hws))) .nil) (by rw[show phi GL.pol codes 11 81 _ _=_ from hL];intro q;cases q)
 refine wpAny_call (codeAny_mono call fun r s' z=>?_)
 induction r using Except.casesOn with
 |error e=>
  obtain⟨m,e1,_⟩:=z
  rw[show phi GL.pol codes 11 81 _ _=_ from hL]at e1;cases e1
 |ok fl=>induction fl using PySem.Flow.casesOn with
  |next=>exact z.elim
  |brk=>exact z.elim
  |cont=>exact z.elim
  |ret v=>
   obtain⟨x,σ2,e1,h',tk,P',η2,rfl,st,p2,I',S',rx⟩:=z
   rw[show phi GL.pol codes 11 81 _ _=_ from hL]at e1
   refine(let GG:=_;(?_:GG))
   cases e1
   cases rx with
   |v rx=>
    cases rx
    refine hq h' tk fun c o e=>?_
    by_cases hc:c=l
    ·subst hc
     have:=I'.gh c _ (st.le.fz c _ (if_pos rfl))
     rw[ol]at e;cases e
     exact this
    ·obtain⟨sl,e2,k⟩:=st.keep c o e (if_neg hc)
     rw[k (fun env he=>nomatch he)]at e2
     exact e2
end
end Mine.Internal
end
open PySem PySem.W PyProof.Rows
set_option Elab.async true
namespace Mine.Internal.top
theorem tw11043217061025085937:True:=⟨⟩
theorem tw12321578611402497262:True:=⟨⟩
theorem tw10566303817854944747:True:=⟨⟩
theorem tw2132572172534452064:True:=⟨⟩
theorem tw521189772711767535:True:=⟨⟩
theorem tw7004908240525062885:True:=⟨⟩
theorem tw16343458017427171125:True:=⟨⟩
theorem tw9857986083372668773:True:=⟨⟩
theorem tw13975789587015594079:True:=⟨⟩
theorem tw3376578929244797344:True:=⟨⟩
theorem tw4452080425741557006:True:=⟨⟩
theorem tw1939891028052953920:True:=⟨⟩
theorem tw13790148587036721687:True:=⟨⟩
theorem tw17777916959871664341:True:=⟨⟩
theorem tw4292971450856153908:True:=⟨⟩
theorem tw4093954228719232537:True:=⟨⟩
theorem tw3002420042466126908:True:=⟨⟩
theorem tw5729745157918896202:True:=⟨⟩
theorem tw1409079984850665806:True:=⟨⟩
theorem tw13350980499027453880:True:=⟨⟩
theorem tw11937090404760201304:True:=⟨⟩
theorem tw2031168391782037587:True:=⟨⟩
theorem tw12202157165724093256:True:=⟨⟩
theorem tw1880862225633710185:True:=⟨⟩
theorem tw6633638283438119252:True:=⟨⟩
theorem tw16472014719743838874:True:=⟨⟩
theorem tw16028667926933547003:True:=⟨⟩
theorem tw537655379702513365:True:=⟨⟩
theorem tw11674742375332813423:True:=⟨⟩
theorem tw16395132551660934125:True:=⟨⟩
theorem tw3297499882803015:True:=⟨⟩
theorem tw575972894614152195:True:=⟨⟩
theorem tw15383745732662625412:True:=⟨⟩
theorem tw16638616803653814301:True:=⟨⟩
theorem tw4800881394078881586:True:=⟨⟩
theorem tw3859489544441860629:True:=⟨⟩
theorem tw10845836190352346787:True:=⟨⟩
theorem tw9424423819971481336:True:=⟨⟩
theorem tw17192410221408842536:True:=⟨⟩
theorem tw633961789465825759:True:=⟨⟩
theorem tw8144437124540616393:True:=⟨⟩
theorem tw5003038185343151314:True:=⟨⟩
theorem tw17482112651236975533:True:=⟨⟩
theorem tw2359081663065897023:True:=⟨⟩
theorem tw4285722769654724837:True:=⟨⟩
theorem tw9600408958321216034:True:=⟨⟩
theorem tw17699669086793706834:True:=⟨⟩
theorem tw16475489246628699285:True:=⟨⟩
theorem tw17395731901395273987:True:=⟨⟩
theorem tw7802373586382275880:True:=⟨⟩
theorem tw18018998308899170529:True:=⟨⟩
theorem tw15963853514978570729:True:=⟨⟩
theorem tw17065051034280456960:True:=⟨⟩
theorem tw9263980581303461995:True:=⟨⟩
theorem tw17972762350735822155:True:=⟨⟩
theorem tw6238113718227997979:True:=⟨⟩
theorem tw3473794460555945794:True:=⟨⟩
theorem tw8306190787968179902:True:=⟨⟩
theorem tw18305725009010888211:True:=⟨⟩
theorem tw10077719338091639627:True:=⟨⟩
theorem tw16155562966025467390:True:=⟨⟩
theorem tw10051035586589366927:True:=⟨⟩
theorem tw81477777580994023:True:=⟨⟩
theorem tw12397985247351023106:True:=⟨⟩
theorem tw2499211546467100236:True:=⟨⟩
theorem tw11450281741638035136:True:=⟨⟩
theorem tw11901713056382136138:True:=⟨⟩
theorem tw1132053622761179395:True:=⟨⟩
theorem tw9062527665077697634:True:=⟨⟩
theorem tw12633997903613392530:True:=⟨⟩
theorem tw2798059388790103831:True:=⟨⟩
theorem tw5152142093285054322:True:=⟨⟩
theorem tw7430941349426302570:True:=⟨⟩
theorem tw9138502148844830937:True:=⟨⟩
theorem tw9884640354352055407:True:=⟨⟩
theorem tw12199141179112045411:True:=⟨⟩
theorem tw10304773355574818972:True:=⟨⟩
theorem tw8739680928115416628:True:=⟨⟩
theorem tw17834423055500728160:True:=⟨⟩
theorem tw16978485354909116887:True:=⟨⟩
theorem tw18105441370092105985:True:=⟨⟩
theorem tw1973894820069645125:True:=⟨⟩
theorem tw16986057357562857111:True:=⟨⟩
theorem tw5610427021895498081:True:=⟨⟩
theorem tw1215964859883860923:True:=⟨⟩
theorem tw13621200503696223240:True:=⟨⟩
theorem tw15928221813122259498:True:=⟨⟩
theorem tw18075333693788313813:True:=⟨⟩
theorem tw14333863902384110815:True:=⟨⟩
theorem tw8031701696515175598:True:=⟨⟩
theorem tw11115634304656294934:True:=⟨⟩
theorem tw6767318745197045464:True:=⟨⟩
theorem tw16302189405121905674:True:=⟨⟩
theorem tw2066615464823769034:True:=⟨⟩
theorem tw10000151773839097830:True:=⟨⟩
theorem tw11813432439359262595:True:=⟨⟩
theorem tw5692313511572592699:True:=⟨⟩
theorem tw3734097135821381683:True:=⟨⟩
theorem tw208349408279511770:True:=⟨⟩
theorem tw10281233747184212334:True:=⟨⟩
theorem tw2173612809583765888:True:=⟨⟩
theorem tw3546318007822382614:True:=⟨⟩
theorem tw1877633103465907576:True:=⟨⟩
theorem tw8100284476553614858:True:=⟨⟩
theorem tw12268056824678507761:True:=⟨⟩
theorem tw13159976091658061616:True:=⟨⟩
theorem tw6537291488908412773:True:=⟨⟩
theorem tw12744332421079344183:True:=⟨⟩
theorem tw14854695082214763653:True:=⟨⟩
theorem tw16665263771771415289:True:=⟨⟩
theorem tw3848417338562682548:True:=⟨⟩
theorem tw16970404784129113309:True:=⟨⟩
theorem tw3755048316220724:True:=⟨⟩
theorem tw11362582506835521884:True:=⟨⟩
theorem tw7392932871158580951:True:=⟨⟩
theorem tw6979260324674004891:True:=⟨⟩
theorem tw6174204621023576706:True:=⟨⟩
theorem tw12564567286428519744:True:=⟨⟩
theorem tw9288951769619596045:True:=⟨⟩
theorem tw10757747977857548540:True:=⟨⟩
theorem tw14626519734897933406:True:=⟨⟩
theorem tw7215231071663758880:True:=⟨⟩
theorem tw16051390350026224621:True:=⟨⟩
theorem tw10141865158089822187:True:=⟨⟩
theorem tw9201169265375263813:True:=⟨⟩
theorem tw6957931927482091308:True:=⟨⟩
theorem tw5500073602540237170:True:=⟨⟩
theorem tw15363294889076991835:True:=⟨⟩
theorem tw15944263967353428039:True:=⟨⟩
theorem tw568811845648479667:True:=⟨⟩
theorem tw9268385444115084606:True:=⟨⟩
theorem tw12843083837792121615:True:=⟨⟩
theorem tw9298004865840787183:True:=⟨⟩
theorem tw15737572715688429200:True:=⟨⟩
theorem tw14403426103380558615:True:=⟨⟩
theorem tw9899525873056809382:True:=⟨⟩
theorem tw11972609793873917069:True:=⟨⟩
theorem tw10458966780877835800:True:=⟨⟩
theorem tw2847590417677406291:True:=⟨⟩
theorem tw17490801551658302231:True:=⟨⟩
theorem tw13328034432266952855:True:=⟨⟩
theorem tw5796386899092881402:True:=⟨⟩
theorem tw16107959718729053754:True:=⟨⟩
theorem tw11734586044434686325:True:=⟨⟩
theorem tw7872716005573729994:True:=⟨⟩
theorem tw4135012713791623128:True:=⟨⟩
theorem tw16449888925898883579:True:=⟨⟩
theorem tw4452900076073076820:True:=⟨⟩
theorem tw12049451959530864647:True:=⟨⟩
theorem tw5510773528456353374:True:=⟨⟩
theorem tw3715125932595375261:True:=⟨⟩
theorem tw7494371352935567935:True:=⟨⟩
theorem tw1804740811916363805:True:=⟨⟩
theorem tw12213897981784730479:True:=⟨⟩
theorem tw8876392290816725482:True:=⟨⟩
theorem tw3169761142097404539:True:=⟨⟩
theorem tw1146653533374164296:True:=⟨⟩
theorem tw2543627671641297764:True:=⟨⟩
theorem tw3703912465997261676:True:=⟨⟩
theorem tw15352428651415293685:True:=⟨⟩
theorem tw5913804267149470210:True:=⟨⟩
theorem tw8561882263934050757:True:=⟨⟩
theorem tw17720068831039047267:True:=⟨⟩
theorem tw17486130782048553412:True:=⟨⟩
theorem tw2822513293113773182:True:=⟨⟩
theorem tw6376109621150531884:True:=⟨⟩
theorem tw2167284312673524829:True:=⟨⟩
theorem tw5818288852761326319:True:=⟨⟩
theorem tw4659158958437835144:True:=⟨⟩
theorem tw1321889710237425297:True:=⟨⟩
theorem tw3470174543416122611:True:=⟨⟩
theorem tw10921953879312442153:True:=⟨⟩
theorem tw14523424327352587759:True:=⟨⟩
theorem tw14601770543051562241:True:=⟨⟩
theorem tw2060887065158190251:True:=⟨⟩
theorem tw13140326828786542489:True:=⟨⟩
theorem tw1988968324990981011:True:=⟨⟩
theorem tw2216440352682232210:True:=⟨⟩
theorem tw4146725247025032527:True:=⟨⟩
theorem tw665305837562067500:True:=⟨⟩
theorem tw5621466946592860981:True:=⟨⟩
theorem tw14523562576630935849:True:=⟨⟩
theorem tw10235583464736365669:True:=⟨⟩
theorem tw5301872647305120685:True:=⟨⟩
theorem tw15776232127264149506:True:=⟨⟩
theorem tw9767823394254817306:True:=⟨⟩
theorem tw15968693567380849981:True:=⟨⟩
theorem tw765726442734313137:True:=⟨⟩
theorem tw6286907934482145664:True:=⟨⟩
theorem tw5562675008611855350:True:=⟨⟩
theorem tw16196511877699326021:True:=⟨⟩
theorem tw16999540093264088150:True:=⟨⟩
theorem tw14890431403400256923:True:=⟨⟩
theorem tw5457094273938068427:True:=⟨⟩
theorem tw12826770549299906837:True:=⟨⟩
theorem tw12389608321161894502:True:=⟨⟩
theorem tw10639208861176150562:True:=⟨⟩
theorem tw12958658431935533636:True:=⟨⟩
theorem tw5120682890018374770:True:=⟨⟩
theorem tw10421932359841884010:True:=⟨⟩
theorem tw17766975901093141987:True:=⟨⟩
theorem tw14857305107324245799:True:=⟨⟩
theorem tw6136537534720721980:True:=⟨⟩
theorem tw11166653451963169899:True:=⟨⟩
theorem tw15409862079407678573:True:=⟨⟩
theorem tw10224447855012489660:True:=⟨⟩
theorem tw17517157469200719435:True:=⟨⟩
theorem tw6865711334122627323:True:=⟨⟩
theorem tw13152269167729381717:True:=⟨⟩
theorem tw15977480423014482849:True:=⟨⟩
theorem tw146773424425766352:True:=⟨⟩
theorem tw9184783938667141480:True:=⟨⟩
theorem tw1256497093593410785:True:=⟨⟩
theorem tw12550150236506596709:True:=⟨⟩
theorem tw16606018177974863750:True:=⟨⟩
theorem tw12677639898438636530:True:=⟨⟩
theorem tw8693390122036074489:True:=⟨⟩
theorem tw17319556495123356376:True:=⟨⟩
theorem tw6032999815510171314:True:=⟨⟩
theorem tw14351324207326088087:True:=⟨⟩
theorem tw10375015436112958005:True:=⟨⟩
theorem tw16783146336373285882:True:=⟨⟩
theorem tw7316192509656241662:True:=⟨⟩
theorem tw12085633503548313609:True:=⟨⟩
theorem tw8968183131928819226:True:=⟨⟩
theorem tw4210572172408910077:True:=⟨⟩
theorem tw2869683704186208260:True:=⟨⟩
theorem tw17844311121973997680:True:=⟨⟩
theorem tw13457364720955713546:True:=⟨⟩
theorem tw5616788035221139965:True:=⟨⟩
theorem tw7084546780548724527:True:=⟨⟩
theorem tw8668963995733928498:True:=⟨⟩
theorem tw8856036827258601485:True:=⟨⟩
theorem tw14886555380714802607:True:=⟨⟩
theorem tw16718771766187595327:True:=⟨⟩
theorem tw11543662522584853678:True:=⟨⟩
theorem tw12555419031055448435:True:=⟨⟩
theorem tw8911312022361643196:True:=⟨⟩
theorem tw11605190798462803:True:=⟨⟩
theorem tw7045792325866979410:True:=⟨⟩
theorem tw17387093387449987635:True:=⟨⟩
theorem tw15530085555645645651:True:=⟨⟩
theorem tw7986717647494867238:True:=⟨⟩
theorem tw3816116555587809094:True:=⟨⟩
theorem tw14714200439050820607:True:=⟨⟩
theorem tw1989182563660835524:True:=⟨⟩
theorem tw5864928976966892335:True:=⟨⟩
theorem tw10352046116051815951:True:=⟨⟩
theorem tw16024287425048541990:True:=⟨⟩
theorem tw9613917744137337606:True:=⟨⟩
theorem tw17106287875927644401:True:=⟨⟩
theorem tw6637577615778216765:True:=⟨⟩
theorem tw17294258476364778673:True:=⟨⟩
theorem tw5404525627408701881:True:=⟨⟩
theorem tw1544470500822314514:True:=⟨⟩
theorem tw16354441263580351735:True:=⟨⟩
theorem tw13304138325143531540:True:=⟨⟩
theorem tw10251817974646213263:True:=⟨⟩
theorem tw3461479455381823619:True:=⟨⟩
theorem tw8432852734657383213:True:=⟨⟩
theorem tw4166898702477680596:True:=⟨⟩
theorem tw14201795354222431000:True:=⟨⟩
theorem tw4681080055648450332:True:=⟨⟩
theorem tw4659864434596470047:True:=⟨⟩
theorem tw10058022631926800244:True:=⟨⟩
theorem tw14772137702585774951:True:=⟨⟩
theorem tw15816288610224309924:True:=⟨⟩
theorem tw523059128148507477:True:=⟨⟩
theorem tw9540439644754808120:True:=⟨⟩
theorem tw3553350837345755414:True:=⟨⟩
theorem tw8951234161870115304:True:=⟨⟩
theorem tw13979802230140247096:True:=⟨⟩
theorem tw490107781044202391:True:=⟨⟩
theorem tw9332288820214974120:True:=⟨⟩
theorem tw17286296071083230534:True:=⟨⟩
theorem tw13576554709588866993:True:=⟨⟩
theorem tw2236196870325046451:True:=⟨⟩
theorem tw15325875014381583208:True:=⟨⟩
theorem tw6097655460758374170:True:=⟨⟩
theorem tw18292218794286455172:True:=⟨⟩
theorem tw8662787799961634674:True:=⟨⟩
theorem tw10563270316943667521:True:=⟨⟩
theorem tw739777717197028625:True:=⟨⟩
theorem tw17761583278045253839:True:=⟨⟩
theorem tw1582896215224490779:True:=⟨⟩
theorem tw14435649072803524601:True:=⟨⟩
theorem tw12386880534626206653:True:=⟨⟩
theorem tw7180339327169727898:True:=⟨⟩
theorem tw10301918104849139272:True:=⟨⟩
theorem tw11453699502411093152:True:=⟨⟩
theorem tw2552208495280619736:True:=⟨⟩
theorem tw9548116872026851275:True:=⟨⟩
theorem tw15638574076032254683:True:=⟨⟩
theorem tw13081510849750441748:True:=⟨⟩
theorem tw4358691650285988494:True:=⟨⟩
theorem tw520769046583192414:True:=⟨⟩
theorem tw17736152075714460416:True:=⟨⟩
theorem tw3591528598837938010:True:=⟨⟩
theorem tw15995848149167271659:True:=⟨⟩
theorem tw16903241853203873244:True:=⟨⟩
theorem tw1257889828201413521:True:=⟨⟩
theorem tw5633613072895788440:True:=⟨⟩
theorem tw10953701514260034837:True:=⟨⟩
theorem tw1530445909060758652:True:=⟨⟩
theorem tw2390321738916012542:True:=⟨⟩
theorem tw11487323097842045720:True:=⟨⟩
theorem tw17130227693291340670:True:=⟨⟩
theorem tw3973854388979629583:True:=⟨⟩
theorem tw8053313499714369516:True:=⟨⟩
theorem tw4779602780188301861:True:=⟨⟩
theorem tw9214077377557974127:True:=⟨⟩
theorem tw9190772781397736551:True:=⟨⟩
theorem tw5981735147869792024:True:=⟨⟩
theorem tw12359816339013744056:True:=⟨⟩
theorem tw7298211664984960474:True:=⟨⟩
theorem tw3951318577535127796:True:=⟨⟩
theorem tw2678264770993242138:True:=⟨⟩
theorem tw5552977561671190334:True:=⟨⟩
theorem tw12723028607798881187:True:=⟨⟩
theorem tw841863616876674956:True:=⟨⟩
theorem tw17995580087040710135:True:=⟨⟩
theorem tw6576394388358699284:True:=⟨⟩
theorem tw11864484845140659591:True:=⟨⟩
theorem tw1965548522181489884:True:=⟨⟩
theorem tw1711735776942586020:True:=⟨⟩
theorem tw1574084805800157497:True:=⟨⟩
theorem tw3224662581019018422:True:=⟨⟩
theorem tw18420180526964859443:True:=⟨⟩
theorem tw16364859902786545777:True:=⟨⟩
theorem tw15628519814315438283:True:=⟨⟩
theorem tw9941808672574154494:True:=⟨⟩
theorem tw8479644328298308588:True:=⟨⟩
theorem tw1857844179572870231:True:=⟨⟩
theorem tw11421662989391217233:True:=⟨⟩
theorem tw10150841575051346588:True:=⟨⟩
theorem tw626149923956320135:True:=⟨⟩
theorem tw4937556039268435538:True:=⟨⟩
theorem tw12105129843553892074:True:=⟨⟩
theorem tw15276081835806400835:True:=⟨⟩
theorem tw15579232420888848282:True:=⟨⟩
theorem tw17138058910076776037:True:=⟨⟩
theorem tw7594318647737432956:True:=⟨⟩
theorem tw6644809715229568432:True:=⟨⟩
theorem tw8708621691826586150:True:=⟨⟩
theorem tw8620470675967494877:True:=⟨⟩
theorem tw17884016658146628497:True:=⟨⟩
theorem tw16777573669741918639:True:=⟨⟩
theorem tw3064821065537233982:True:=⟨⟩
theorem tw1336101871333357784:True:=⟨⟩
theorem tw144367136773183799:True:=⟨⟩
theorem tw6406678054242604970:True:=⟨⟩
theorem tw4847227669690319864:True:=⟨⟩
theorem tw1440417458981979506:True:=⟨⟩
theorem tw8812595490529507511:True:=⟨⟩
theorem tw17278646547998961383:True:=⟨⟩
theorem tw10043828102079475321:True:=⟨⟩
theorem tw3591354053504244187:True:=⟨⟩
theorem tw13667679107411666030:True:=⟨⟩
theorem tw15858202072961382086:True:=⟨⟩
theorem tw1359346318022063310:True:=⟨⟩
theorem tw13350696996943827867:True:=⟨⟩
theorem tw127015856049100349:True:=⟨⟩
theorem tw3551524653944770996:True:=⟨⟩
theorem tw14040409179341469434:True:=⟨⟩
theorem tw286894914292673042:True:=⟨⟩
theorem tw5168217950247624684:True:=⟨⟩
theorem tw539526240842694523:True:=⟨⟩
theorem tw7607171497304258000:True:=⟨⟩
theorem tw9132327515131269376:True:=⟨⟩
theorem tw17679583741306439967:True:=⟨⟩
theorem tw10209070706382725253:True:=⟨⟩
theorem tw4233123507461079294:True:=⟨⟩
theorem tw8858847378591492600:True:=⟨⟩
theorem tw1598822999587244669:True:=⟨⟩
theorem tw5322745007738618574:True:=⟨⟩
theorem tw10009890631710923326:True:=⟨⟩
theorem tw643457376458576901:True:=⟨⟩
theorem tw14396554591134617706:True:=⟨⟩
theorem tw6314114552039423761:True:=⟨⟩
theorem tw7275706230409431836:True:=⟨⟩
theorem tw1814798655366874729:True:=⟨⟩
theorem tw7020576201523080418:True:=⟨⟩
theorem tw18034367746340020761:True:=⟨⟩
theorem tw4788095139925620210:True:=⟨⟩
theorem tw7223148041124273219:True:=⟨⟩
theorem tw5950101519829242571:True:=⟨⟩
theorem tw5653952116525803039:True:=⟨⟩
theorem tw7555788285894137762:True:=⟨⟩
theorem tw13829019133032587746:True:=⟨⟩
theorem tw3478507057714027010:True:=⟨⟩
theorem tw14124115362645966802:True:=⟨⟩
theorem tw1303878090942913342:True:=⟨⟩
theorem tw18150737249657163999:True:=⟨⟩
theorem tw3801082410312115634:True:=⟨⟩
theorem tw9557896550380895938:True:=⟨⟩
theorem tw17594272464922843950:True:=⟨⟩
theorem tw1146466956112092602:True:=⟨⟩
theorem tw16789351800688536709:True:=⟨⟩
theorem tw15923886597983379551:True:=⟨⟩
theorem tw11473549551943233250:True:=⟨⟩
theorem tw6259857127530409489:True:=⟨⟩
theorem tw18208272045366686900:True:=⟨⟩
theorem tw12293448167491514632:True:=⟨⟩
theorem tw18134916490591298656:True:=⟨⟩
theorem tw4481428112169565444:True:=⟨⟩
theorem tw7473103189400481370:True:=⟨⟩
theorem tw16241080443536127842:True:=⟨⟩
theorem tw15394327938472586014:True:=⟨⟩
theorem tw2808618013460113102:True:=⟨⟩
theorem tw12010411628158169095:True:=⟨⟩
theorem tw1530202735499281544:True:=⟨⟩
theorem tw10633276546172441077:True:=⟨⟩
theorem tw2059055850335726714:True:=⟨⟩
theorem tw17227318624449818335:True:=⟨⟩
theorem tw1333467980876845412:True:=⟨⟩
theorem tw6986792338942341288:True:=⟨⟩
theorem tw8431511291280310594:True:=⟨⟩
theorem tw12918040259296373618:True:=⟨⟩
theorem tw9007187541838641408:True:=⟨⟩
theorem tw10253266929035873589:True:=⟨⟩
theorem tw823367340911138357:True:=⟨⟩
theorem tw14180891881653427625:True:=⟨⟩
theorem tw16757837090424149463:True:=⟨⟩
theorem tw7429595301164994342:True:=⟨⟩
theorem tw7869916644634597583:True:=⟨⟩
theorem tw8962291564290336180:True:=⟨⟩
theorem tw7664123258576448866:True:=⟨⟩
theorem tw17150486709102819674:True:=⟨⟩
theorem tw4902697784085184246:True:=⟨⟩
theorem tw42793657362422438:True:=⟨⟩
theorem tw17508040994529338635:True:=⟨⟩
theorem tw413647377535720443:True:=⟨⟩
theorem tw1545173250012000341:True:=⟨⟩
theorem tw12956361015416726538:True:=⟨⟩
theorem tw10510781333263205275:True:=⟨⟩
theorem tw14590976145247705079:True:=⟨⟩
theorem tw16933379398669410702:True:=⟨⟩
theorem tw12104843228025455021:True:=⟨⟩
theorem tw325701027894113396:True:=⟨⟩
theorem tw9752777256038598857:True:=⟨⟩
theorem tw5961517122022696431:True:=⟨⟩
theorem tw17948007346036011693:True:=⟨⟩
theorem tw5067857007761187280:True:=⟨⟩
theorem tw10762427235269020296:True:=⟨⟩
theorem tw8399358099826777561:True:=⟨⟩
theorem tw6788602826054735687:True:=⟨⟩
theorem tw10787689851631817738:True:=⟨⟩
theorem tw6341164735604888600:True:=⟨⟩
theorem tw11059456471116068377:True:=⟨⟩
theorem tw11342812077384292834:True:=⟨⟩
theorem tw18178861665737757065:True:=⟨⟩
theorem tw8436750204218394681:True:=⟨⟩
theorem tw18390398399941182516:True:=⟨⟩
theorem tw10107413807033572681:True:=⟨⟩
theorem tw17437252320363192878:True:=⟨⟩
theorem tw11745378153367087006:True:=⟨⟩
theorem tw5447724677579432976:True:=⟨⟩
theorem tw9772228475977979770:True:=⟨⟩
theorem tw1529471190307743451:True:=⟨⟩
theorem tw10318786220373567953:True:=⟨⟩
theorem tw4525032463667256395:True:=⟨⟩
theorem tw17016791072708204640:True:=⟨⟩
theorem tw17839812397989569199:True:=⟨⟩
theorem tw14316322753584727097:True:=⟨⟩
theorem tw14892623766237675795:True:=⟨⟩
theorem tw6894671398767096449:True:=⟨⟩
theorem tw6641737377494409931:True:=⟨⟩
theorem tw4514227296345098202:True:=⟨⟩
theorem tw5074981210616091618:True:=⟨⟩
theorem tw16594597127384249290:True:=⟨⟩
theorem tw15280026518775181452:True:=⟨⟩
theorem tw5742560610160955835:True:=⟨⟩
theorem tw4774092121438658482:True:=⟨⟩
theorem tw16973335206017075459:True:=⟨⟩
theorem tw2394164270899882992:True:=⟨⟩
theorem tw16493140423106005027:True:=⟨⟩
theorem tw9710472976345978675:True:=⟨⟩
theorem tw9018844094224823930:True:=⟨⟩
theorem tw6866331711143088156:True:=⟨⟩
theorem tw11646696383265305502:True:=⟨⟩
theorem tw13893653591815708102:True:=⟨⟩
theorem tw16967540883216359769:True:=⟨⟩
theorem tw12688362620009017319:True:=⟨⟩
theorem tw6237380944343322104:True:=⟨⟩
theorem tw10476705880334391977:True:=⟨⟩
theorem tw3421363785454103130:True:=⟨⟩
theorem tw14926763537911541244:True:=⟨⟩
theorem tw6390181912296049928:True:=⟨⟩
theorem tw445280442123276167:True:=⟨⟩
theorem tw854505233661587663:True:=⟨⟩
theorem tw1028392141081848037:True:=⟨⟩
theorem tw3193967093980051969:True:=⟨⟩
theorem tw4800249000400362735:True:=⟨⟩
theorem tw5033216495002610041:True:=⟨⟩
theorem tw9030478823816917489:True:=⟨⟩
theorem tw5601020203958228312:True:=⟨⟩
theorem tw390228051793449378:True:=⟨⟩
theorem tw18436455988228482853:True:=⟨⟩
theorem tw1814990850196440121:True:=⟨⟩
theorem tw13974102769003797688:True:=⟨⟩
theorem tw15351123407209332890:True:=⟨⟩
theorem tw16671336811056675724:True:=⟨⟩
theorem tw12208904984759781237:True:=⟨⟩
theorem tw163912900873485975:True:=⟨⟩
theorem tw10733969131915476666:True:=⟨⟩
theorem tw1459965591142175206:True:=⟨⟩
theorem tw11123022429692411069:True:=⟨⟩
theorem tw17100678534677701075:True:=⟨⟩
theorem tw13294651291892747998:True:=⟨⟩
theorem tw55607237529433431:True:=⟨⟩
theorem tw6606002456939042033:True:=⟨⟩
theorem tw9492194172350234375:True:=⟨⟩
theorem tw5148066052227555432:True:=⟨⟩
theorem tw6367619466825291960:True:=⟨⟩
theorem tw15966206647364585243:True:=⟨⟩
theorem tw1496424434756222033:True:=⟨⟩
theorem tw10468760488827818621:True:=⟨⟩
theorem tw16382779569389352660:True:=⟨⟩
theorem tw14703326711006425758:True:=⟨⟩
theorem tw13505688805087003895:True:=⟨⟩
theorem tw4561158844671109056:True:=⟨⟩
theorem tw1537663609479678028:True:=⟨⟩
theorem tw15041818762686150043:True:=⟨⟩
theorem tw13470704340632559980:True:=⟨⟩
theorem tw342147391948764841:True:=⟨⟩
theorem tw17784816944949626005:True:=⟨⟩
theorem tw16549430686836554166:True:=⟨⟩
theorem tw18210048539170123236:True:=⟨⟩
theorem tw5304958524431188055:True:=⟨⟩
theorem tw6843396296170456375:True:=⟨⟩
theorem tw5623062341943897314:True:=⟨⟩
theorem tw10171357143586622507:True:=⟨⟩
theorem tw7871083683857354860:True:=⟨⟩
theorem tw8214670231467443374:True:=⟨⟩
theorem tw2304277961439164623:True:=⟨⟩
theorem tw12901981390630445424:True:=⟨⟩
theorem tw14847000312772958493:True:=⟨⟩
theorem tw17089418743838290962:True:=⟨⟩
theorem tw17008111865578257500:True:=⟨⟩
theorem tw2637607930223039120:True:=⟨⟩
theorem tw9629323845154466031:True:=⟨⟩
theorem tw5465132969950838780:True:=⟨⟩
theorem tw14556967029381680528:True:=⟨⟩
theorem tw18323861492468777637:True:=⟨⟩
theorem tw1114123842598374841:True:=⟨⟩
theorem tw11847229600219399345:True:=⟨⟩
theorem tw14309398836641287207:True:=⟨⟩
theorem tw16538046557401838581:True:=⟨⟩
theorem tw9625230811557485409:True:=⟨⟩
theorem tw2843268139238364847:True:=⟨⟩
theorem tw17232785984132621337:True:=⟨⟩
theorem tw15104300654673109495:True:=⟨⟩
theorem tw14245389107153733232:True:=⟨⟩
theorem tw12421218403726515252:True:=⟨⟩
theorem tw17193377041912624992:True:=⟨⟩
theorem tw7839819818863174658:True:=⟨⟩
theorem tw13612888447903221690:True:=⟨⟩
theorem tw7067367649517415538:True:=⟨⟩
theorem tw5703560002966103744:True:=⟨⟩
theorem tw9515872314998021679:True:=⟨⟩
theorem tw1803252692605211445:True:=⟨⟩
theorem tw5378089467632502573:True:=⟨⟩
theorem tw4392121412701819569:True:=⟨⟩
theorem tw14745097296005518818:True:=⟨⟩
theorem tw18106397260369847346:True:=⟨⟩
theorem tw5586819576075667426:True:=⟨⟩
theorem tw731018301416940780:True:=⟨⟩
theorem tw9582731030139317086:True:=⟨⟩
theorem tw12509089438165600114:True:=⟨⟩
theorem tw16422452887274150876:True:=⟨⟩
theorem tw17870716199811601467:True:=⟨⟩
theorem tw12807726612057697314:True:=⟨⟩
theorem tw1474440863725073504:True:=⟨⟩
theorem tw3117993477848601539:True:=⟨⟩
theorem tw16236636204346529337:True:=⟨⟩
theorem tw8183734358853608566:True:=⟨⟩
theorem tw13167573668432869061:True:=⟨⟩
theorem tw1354547793471785592:True:=⟨⟩
theorem tw2124533867104040208:True:=⟨⟩
theorem tw7818407478763246178:True:=⟨⟩
theorem tw9508609050651140879:True:=⟨⟩
theorem tw6675869478591958659:True:=⟨⟩
theorem tw6268469946394325495:True:=⟨⟩
theorem tw15293768039707367032:True:=⟨⟩
theorem tw7216829507555701525:True:=⟨⟩
theorem tw9426402191832578197:True:=⟨⟩
theorem tw3614536281611639193:True:=⟨⟩
theorem tw9938863445179745123:True:=⟨⟩
theorem tw81772323286808114:True:=⟨⟩
theorem tw10232402366659447469:True:=⟨⟩
theorem tw6075179600080939289:True:=⟨⟩
theorem tw9853281068212645962:True:=⟨⟩
theorem tw5588393278910953462:True:=⟨⟩
theorem tw17066799750759186638:True:=⟨⟩
theorem tw8225112222436222983:True:=⟨⟩
theorem tw15159364618328049734:True:=⟨⟩
theorem tw1164974070002119393:True:=⟨⟩
theorem tw16755758252483531876:True:=⟨⟩
theorem tw774531465980340394:True:=⟨⟩
theorem tw12891618694953958263:True:=⟨⟩
theorem tw2617585936269546182:True:=⟨⟩
theorem tw16425556512254615334:True:=⟨⟩
theorem tw10215241748254838605:True:=⟨⟩
theorem tw10967717381065908690:True:=⟨⟩
theorem tw6291879004882872706:True:=⟨⟩
theorem tw15624169476678399799:True:=⟨⟩
theorem tw17766973420474014916:True:=⟨⟩
theorem tw15769138564818942050:True:=⟨⟩
theorem tw12527079761500913931:True:=⟨⟩
theorem tw10301678495087153191:True:=⟨⟩
theorem tw13442318326378130907:True:=⟨⟩
theorem tw11275794412542755984:True:=⟨⟩
theorem tw14918657019616035990:True:=⟨⟩
theorem tw7828815278074292299:True:=⟨⟩
theorem tw14482614054744339948:True:=⟨⟩
theorem tw1202009397182005451:True:=⟨⟩
theorem tw72480060676809745:True:=⟨⟩
theorem tw6311718812143103208:True:=⟨⟩
theorem tw14055779014356699268:True:=⟨⟩
theorem tw13970893135539171013:True:=⟨⟩
theorem tw14670682168383933292:True:=⟨⟩
theorem tw12745399379327383730:True:=⟨⟩
theorem tw12216943602677884022:True:=⟨⟩
theorem tw7567165803220911316:True:=⟨⟩
theorem tw12230269532569276259:True:=⟨⟩
theorem tw5636914816737475253:True:=⟨⟩
theorem tw21731952007352024:True:=⟨⟩
theorem tw8201774674864064608:True:=⟨⟩
theorem tw2186587022839359540:True:=⟨⟩
theorem tw12629399664659736337:True:=⟨⟩
theorem tw18230934574480235579:True:=⟨⟩
theorem tw15829578809876464852:True:=⟨⟩
theorem tw7934642566933247029:True:=⟨⟩
theorem tw24819456490665821:True:=⟨⟩
theorem tw16274422952707480473:True:=⟨⟩
theorem tw12626598181475660440:True:=⟨⟩
theorem tw10094988914692631798:True:=⟨⟩
theorem tw14179958063155065553:True:=⟨⟩
theorem tw18154499757341482236:True:=⟨⟩
theorem tw287205847653051140:True:=⟨⟩
theorem tw10911820082472526780:True:=⟨⟩
theorem tw11603460709546013301:True:=⟨⟩
theorem tw6991883505879560381:True:=⟨⟩
theorem tw13221474131959919858:True:=⟨⟩
theorem tw7493508265152591696:True:=⟨⟩
theorem tw6741311807179157745:True:=⟨⟩
theorem tw5180424751448760304:True:=⟨⟩
theorem tw14003654322360851231:True:=⟨⟩
theorem tw17163421694645828034:True:=⟨⟩
theorem tw967226438668809532:True:=⟨⟩
theorem tw14696954797618552970:True:=⟨⟩
theorem tw7857265422502025840:True:=⟨⟩
theorem tw7698775170400769924:True:=⟨⟩
theorem tw3574701951366801553:True:=⟨⟩
theorem tw3760678942998155436:True:=⟨⟩
theorem tw4346845203115842823:True:=⟨⟩
theorem tw9340465933825872828:True:=⟨⟩
theorem tw3664489551972543855:True:=⟨⟩
theorem tw5287847629270259684:True:=⟨⟩
theorem tw5687464533073616199:True:=⟨⟩
theorem tw1371426942132654659:True:=⟨⟩
theorem tw7874819099193967623:True:=⟨⟩
theorem tw18131894101800294808:True:=⟨⟩
theorem tw8471810450847980311:True:=⟨⟩
theorem tw15179066919290366404:True:=⟨⟩
theorem tw17908442195147197590:True:=⟨⟩
theorem tw1034091350197277523:True:=⟨⟩
theorem tw9219320851941923796:True:=⟨⟩
theorem tw10460277378970349390:True:=⟨⟩
theorem tw5599315154066725791:True:=⟨⟩
theorem tw1390282254260020351:True:=⟨⟩
theorem tw8988850026725741177:True:=⟨⟩
theorem tw11930494134326834980:True:=⟨⟩
theorem tw12969714761311938348:True:=⟨⟩
theorem tw18305795201310230813:True:=⟨⟩
theorem tw11955091422985450564:True:=⟨⟩
theorem tw147322065944840502:True:=⟨⟩
theorem tw4978625916958014848:True:=⟨⟩
theorem tw6054791319243155260:True:=⟨⟩
theorem tw13787949552538515048:True:=⟨⟩
theorem tw7996940896178408732:True:=⟨⟩
theorem tw6017799029537352875:True:=⟨⟩
theorem tw1899696750841701429:True:=⟨⟩
theorem tw11553786662088000676:True:=⟨⟩
theorem tw557710812052527154:True:=⟨⟩
theorem tw18411503378437029776:True:=⟨⟩
theorem tw5794392898259340163:True:=⟨⟩
theorem tw6765633624655473283:True:=⟨⟩
theorem tw3204914169056307811:True:=⟨⟩
theorem tw4356378928960863874:True:=⟨⟩
theorem tw5350250074180790176:True:=⟨⟩
theorem tw17267502889317207895:True:=⟨⟩
theorem tw14709206323960191080:True:=⟨⟩
theorem tw7618430945989835426:True:=⟨⟩
theorem tw3293628017222772198:True:=⟨⟩
theorem tw6191825096880552778:True:=⟨⟩
theorem tw10367316497732121804:True:=⟨⟩
theorem tw8973810270191469921:True:=⟨⟩
theorem tw15088432979440192417:True:=⟨⟩
theorem tw9415862069046797001:True:=⟨⟩
theorem tw7151160821501193467:True:=⟨⟩
theorem tw2637391485397011969:True:=⟨⟩
theorem tw11323893253057752799:True:=⟨⟩
theorem tw12749150186008769383:True:=⟨⟩
theorem tw16944405162405951890:True:=⟨⟩
theorem tw9709091215978847155:True:=⟨⟩
theorem tw2952970861071799623:True:=⟨⟩
theorem tw16935642183345931126:True:=⟨⟩
theorem tw2925770888664824250:True:=⟨⟩
theorem tw13662078916789152284:True:=⟨⟩
theorem tw11645164558420707849:True:=⟨⟩
theorem tw10815754745809851965:True:=⟨⟩
theorem tw12278840777136235853:True:=⟨⟩
theorem tw13362638003374514776:True:=⟨⟩
theorem tw15164046739070533756:True:=⟨⟩
theorem tw12805097746503026508:True:=⟨⟩
theorem tw17486517844360885448:True:=⟨⟩
theorem tw17183626927085625548:True:=⟨⟩
theorem tw13045462434218280821:True:=⟨⟩
theorem tw9371748951443292765:True:=⟨⟩
theorem tw1256501354222754481:True:=⟨⟩
theorem tw1435030683328542103:True:=⟨⟩
theorem tw3623494539569614636:True:=⟨⟩
theorem tw16377383015023429762:True:=⟨⟩
theorem tw11798232722194652121:True:=⟨⟩
theorem tw17884187230794946231:True:=⟨⟩
theorem tw12993393966586794319:True:=⟨⟩
theorem tw3346173298411247277:True:=⟨⟩
theorem tw9145172509365103864:True:=⟨⟩
theorem tw1385761639686630165:True:=⟨⟩
theorem tw11577714656221576102:True:=⟨⟩
theorem tw9668818020323923091:True:=⟨⟩
theorem tw11469050921845970758:True:=⟨⟩
theorem tw3944961305390188921:True:=⟨⟩
theorem tw4449022122412879137:True:=⟨⟩
theorem tw13065438765151665677:True:=⟨⟩
theorem tw14629704432273887227:True:=⟨⟩
theorem tw13732469690578018927:True:=⟨⟩
theorem tw16266046182406567281:True:=⟨⟩
theorem tw18089494060836986335:True:=⟨⟩
theorem tw4928546487708351017:True:=⟨⟩
theorem tw10489881607586626982:True:=⟨⟩
theorem tw6306196520602577528:True:=⟨⟩
theorem tw8510952907010044682:True:=⟨⟩
theorem tw14106752522041834521:True:=⟨⟩
theorem tw174608929583880089:True:=⟨⟩
theorem tw3468775586254522200:True:=⟨⟩
theorem tw7169288159835523660:True:=⟨⟩
theorem tw10325756141927070261:True:=⟨⟩
theorem tw10633592480551289377:True:=⟨⟩
theorem tw678918350425922230:True:=⟨⟩
theorem tw15615271280030099989:True:=⟨⟩
theorem tw5837865806460918654:True:=⟨⟩
theorem tw1270794633727948117:True:=⟨⟩
theorem tw708343306878879310:True:=⟨⟩
theorem tw181148784610335781:True:=⟨⟩
theorem tw7516556085045824255:True:=⟨⟩
theorem tw12679584841122526521:True:=⟨⟩
theorem tw11508622219647577818:True:=⟨⟩
theorem tw6233042368526273865:True:=⟨⟩
theorem tw12414713328683383062:True:=⟨⟩
theorem tw17428317208339660896:True:=⟨⟩
theorem tw2036318139731415551:True:=⟨⟩
theorem tw16807963973002768947:True:=⟨⟩
theorem tw727307439833339266:True:=⟨⟩
theorem tw11987071251158246107:True:=⟨⟩
theorem tw3319630179170076826:True:=⟨⟩
theorem tw2678565742616173392:True:=⟨⟩
theorem tw2184741440450606565:True:=⟨⟩
theorem tw7562737545421388992:True:=⟨⟩
theorem tw5477201982944387824:True:=⟨⟩
theorem tw15894399724522964487:True:=⟨⟩
theorem tw17450095120196383901:True:=⟨⟩
theorem tw1709199611977835394:True:=⟨⟩
theorem tw18271657757478874682:True:=⟨⟩
theorem tw13280788281328014782:True:=⟨⟩
theorem tw7228385086477922964:True:=⟨⟩
theorem tw10374729094635567596:True:=⟨⟩
theorem tw248565305256097682:True:=⟨⟩
theorem tw14075600393017398815:True:=⟨⟩
theorem tw3762947753125053261:True:=⟨⟩
theorem tw17306510452159993596:True:=⟨⟩
theorem tw1012405528477698301:True:=⟨⟩
theorem tw13993335479688991411:True:=⟨⟩
theorem tw13766732463716017502:True:=⟨⟩
theorem tw2016369878847939774:True:=⟨⟩
theorem tw2150884806941865527:True:=⟨⟩
theorem tw2058190040818037504:True:=⟨⟩
theorem tw17761709516150232866:True:=⟨⟩
theorem tw1906309590840183704:True:=⟨⟩
theorem tw10810484993373364112:True:=⟨⟩
theorem tw11249482418953624010:True:=⟨⟩
theorem tw6387474787400901895:True:=⟨⟩
theorem tw7883390658026711479:True:=⟨⟩
theorem tw18344339150985130189:True:=⟨⟩
theorem tw14060043875824209832:True:=⟨⟩
theorem tw6183769204509311085:True:=⟨⟩
theorem tw4249365812383928835:True:=⟨⟩
theorem tw7247392176347009764:True:=⟨⟩
theorem tw8115435876871822822:True:=⟨⟩
theorem tw14777595985564153256:True:=⟨⟩
theorem tw8011807031885261350:True:=⟨⟩
theorem tw15622167095645028090:True:=⟨⟩
theorem tw13806626879373084626:True:=⟨⟩
theorem tw2333619997193018300:True:=⟨⟩
theorem tw10876147964965299775:True:=⟨⟩
theorem tw5589416550623021731:True:=⟨⟩
theorem tw14458970266021412040:True:=⟨⟩
theorem tw6565141054007306955:True:=⟨⟩
theorem tw2499726003972739145:True:=⟨⟩
theorem tw5425060295598968029:True:=⟨⟩
theorem tw10184159751828612529:True:=⟨⟩
theorem tw2532183162996157512:True:=⟨⟩
theorem tw5689479814868526312:True:=⟨⟩
theorem tw16638610986525751341:True:=⟨⟩
theorem tw15834288513083688523:True:=⟨⟩
theorem tw17371567254511631791:True:=⟨⟩
theorem tw66310420103869109:True:=⟨⟩
theorem tw18274995345050041057:True:=⟨⟩
theorem tw7281760429439090794:True:=⟨⟩
theorem tw2353124483301268101:True:=⟨⟩
theorem tw2991829568394987824:True:=⟨⟩
theorem tw14111937268191799636:True:=⟨⟩
theorem tw1383960294148782743:True:=⟨⟩
theorem tw6911682622678553293:True:=⟨⟩
theorem tw16980858752268031258:True:=⟨⟩
theorem tw12898214450840732056:True:=⟨⟩
theorem tw5201694898761079571:True:=⟨⟩
theorem tw4546051625015397690:True:=⟨⟩
theorem tw5438275306746938365:True:=⟨⟩
theorem tw10326944404527208860:True:=⟨⟩
theorem tw2243788991505603994:True:=⟨⟩
theorem tw944256720087311168:True:=⟨⟩
theorem tw13961821577040325202:True:=⟨⟩
theorem tw7263703203146111841:True:=⟨⟩
theorem tw9092913474830259118:True:=⟨⟩
theorem tw582400093706935869:True:=⟨⟩
theorem tw11757250957258130239:True:=⟨⟩
theorem tw17728291064479995148:True:=⟨⟩
theorem tw12605521951455887554:True:=⟨⟩
theorem tw2825663273701143045:True:=⟨⟩
theorem tw41243585837503738:True:=⟨⟩
theorem tw4045333470462317298:True:=⟨⟩
theorem tw14006013090955022521:True:=⟨⟩
theorem tw14646490398715655967:True:=⟨⟩
theorem tw5973563974846798288:True:=⟨⟩
theorem tw10412626644107779628:True:=⟨⟩
theorem tw10513786172945591757:True:=⟨⟩
theorem tw427970110777602685:True:=⟨⟩
theorem tw5137989725947311808:True:=⟨⟩
theorem tw10381969733984940228:True:=⟨⟩
theorem tw722968018441236648:True:=⟨⟩
theorem tw13101516808150361488:True:=⟨⟩
theorem tw4457733891603311482:True:=⟨⟩
theorem tw16126187623623717532:True:=⟨⟩
theorem tw18399110394308501592:True:=⟨⟩
theorem tw9931072437597627175:True:=⟨⟩
theorem tw6601750361064331753:True:=⟨⟩
theorem tw2459273368520916753:True:=⟨⟩
theorem tw5015957572073571753:True:=⟨⟩
theorem tw5088212886959746038:True:=⟨⟩
theorem tw12112644397156476413:True:=⟨⟩
theorem tw5560903506634101966:True:=⟨⟩
theorem tw14433615092557509415:True:=⟨⟩
theorem tw12419944802868850976:True:=⟨⟩
theorem tw15232597023259243504:True:=⟨⟩
end Mine.Internal.top
set_option maxRecDepth 100000 in
set_option maxHeartbeats 0 in
theorem Mine.Internal.top : PySem.Challenge.rw_pq1359_01.Holds := by
  w_on; o_law; k_head; (case hw => w_witness2)
  intro w s₀ s₁ mg mb G Y fa o pm cd doc dV kV ho hd' hcd hD hmg hg args vals as hpre hlay hrd hwl hlo
  have KX := kIn_of Y
  refine Ground.open G ?_
  intro T B D TE TW
  wrow_args hpre hlay hrd hwl hlo
  obtain ⟨mm, hmm, _⟩ := (T.seer (by kernel_rfl)).mods
  refine Mine.Internal.law_runs ⟨by kernel_rfl, by kernel_rfl, by kernel_rfl, by kernel_rfl, by kernel_rfl, by kernel_rfl, by kernel_rfl, by kernel_rfl, by kernel_rfl, by kernel_rfl, by kernel_rfl, by kernel_rfl, by kernel_rfl, by kernel_rfl⟩ KX T.g T.b T.builtins T.nolimit ⟨mm, hmm⟩ hmg (by assumption) (by omega) fun h' tk k => ?_
  refine GoodW.toG ⟨.inl ⟨.bool true, .bool true, [], rfl, ?_, .bool true, ?_, fun _ => ⟨.nil, fun a h => nomatch h⟩⟩, k, rfl, hg⟩
  · first | exact fun _ => rfl | exact raisesW_false (by wrow_none_raised)
  · first | exact rfl | wrow_post
theorem PySem.Challenge.cw_pq1359_01_holds : PySem.Challenge.rw_pq1359_01.Holds :=
  Mine.Internal.top
